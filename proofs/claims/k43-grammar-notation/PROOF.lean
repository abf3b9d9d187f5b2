import PyProof.Rows.All
import Wide.All
import OpenK.AllK
import Wide.FinOn
import HandS.ForMost
import HandS.TupAny
import HandS.IsInst
import HandS.Deep
import HandS.WordsExc
import HandS.Wide
import HandS.RaiseMore
import HandS.SetFor
import HandS.Text
import HandS.ExcIs
import HandS.Conv
import KE.GoesMore
import KE.GoesEnum
import HandS.ExcInit
import HandS.ExcField
import HandS.ExcOwn
import KE.KExcIs
import HandS.TryOnly
import HandS.OwnEq
import HandS.FStr
import HandS.Codes
import HandS.Style
import KE.KRevSl
import PyProof.SliceStr2
import PySem.Challenge.RW_fourleashes_k43_grammar_notation
set_option Elab.async false
set_option linter.all false
set_option maxRecDepth 100000
set_option maxHeartbeats 8000000
section
/-! VA: a value layer over the hand layer: data (D), what denotes it (Den), worlds (Wd), cells (Cell), readings by functions of cells (VT, VB, VA, VN). -/
namespace VL
open PySem PySem.Spec PyProof.Rows L2

inductive D where
  | non | bl (b : Bool) | int (i : Int) | str (x : Str)
  | tup (ds : List D) | lst (ds : List D)
  /-- a list that is only read (the script, a list of the top) -/
  | scr (ds : List D)
  /-- an instance of the class at C -/
  | ins (C : Addr) (ns : List Str) (ds : List D)

mutual
inductive Den (K : PySem.W.Frag) (H : Hp) : V → D → Prop
  | non : Den K H .non .non
  | bl (b : Bool) : Den K H (.bl b) (.bl b)
  | int (i : Int) : Den K H (.int i) (.int i)
  | str (x : Str) : Den K H (.str x) (.str x)
  | tup {a : Addr} {xs : List V} {ds : List D} : SqT K H a xs → DenL K H xs ds → Den K H (.ref a) (.tup ds)
  | lst {a : Addr} {xs : List V} {ds : List D} : H a = some (.lst xs) → DenL K H xs ds → Den K H (.ref a) (.lst ds)
  | scr {a : Addr} {xs : List V} {ds : List D} : SqL K H a xs → DenL K H xs ds → Den K H (.ref a) (.scr ds)
  | ins {a C dx : Addr} {fs : List (Str × V)} {ns : List Str} {ds : List D} : H a = some (.ins C dx fs) → fs.map (·.1) = ns → DenL K H (fs.map (·.2)) ds → Den K H (.ref a) (.ins C ns ds)
inductive DenL (K : PySem.W.Frag) (H : Hp) : List V → List D → Prop
  | nil : DenL K H [] []
  | cons {v : V} {vs : List V} {d : D} {ds : List D} : Den K H v d → DenL K H vs ds → DenL K H (v :: vs) (d :: ds)
end

section
variable {K : PySem.W.Frag} {H H' : Hp}
theorem sqT_same (e : Same H H') {a : Addr} {xs : List V} (h : SqT K H a xs) : SqT K H' a xs := by
  rcases h with (h | ⟨o, h⟩) | h
  · exact .inl (.inl (e _ _ h))
  · exact .inl (.inr ⟨o, e _ _ h⟩)
  · exact .inr h
mutual
theorem Den.mono (e : Same H H') : ∀ (d : D) (v : V), Den K H v d → Den K H' v d
  | .non, _, h => by cases h; exact .non
  | .bl b, _, h => by cases h; exact .bl b
  | .int i, _, h => by cases h; exact .int i
  | .str x, _, h => by cases h; exact .str x
  | .tup ds, _, h => by
    cases h with
    | tup h1 h2 => exact .tup (sqT_same e h1) (DenL.mono e ds _ h2)
  | .lst ds, _, h => by
    cases h with
    | lst h1 h2 => exact .lst (e _ _ h1) (DenL.mono e ds _ h2)
  | .scr ds, _, h => by
    cases h with
    | scr h1 h2 => exact .scr (e.seq h1) (DenL.mono e ds _ h2)
  | .ins C ns ds, _, h => by
    cases h with
    | ins h1 h2 h3 => exact .ins (e _ _ h1) h2 (DenL.mono e ds _ h3)
theorem DenL.mono (e : Same H H') : ∀ (ds : List D) (vs : List V), DenL K H vs ds → DenL K H' vs ds
  | [], _, h => by cases h; exact .nil
  | d :: ds, _, h => by
    cases h with
    | cons h1 h2 => exact .cons (Den.mono e d _ h1) (DenL.mono e ds _ h2)
end
theorem Den.up {v : V} {d : D} (h : Den K H v d) (e : Same H H') : Den K H' v d := Den.mono e d v h
theorem DenL.up {v : List V} {d : List D} (h : DenL K H v d) (e : Same H H') : DenL K H' v d := DenL.mono e d v h
theorem DenL.length : ∀ {ds : List D} {vs : List V}, DenL K H vs ds → vs.length = ds.length
  | [], _, h => by cases h; rfl
  | d :: ds, _, h => by
    cases h with
    | cons h1 h2 => simp [DenL.length h2]
theorem DenL.append : ∀ {ds es : List D} {vs us : List V}, DenL K H vs ds → DenL K H us es → DenL K H (vs ++ us) (ds ++ es)
  | [], _, _, _, h, g => by cases h; exact g
  | d :: ds, _, _, _, h, g => by
    cases h with
    | cons h1 h2 => exact .cons h1 (DenL.append h2 g)
theorem DenL.take : ∀ {ds : List D} {vs : List V} (n : Nat), DenL K H vs ds → DenL K H (vs.take n) (ds.take n)
  | _, _, 0, _ => by simp; exact .nil
  | [], _, n + 1, h => by cases h; exact .nil
  | d :: ds, _, n + 1, h => by
    cases h with
    | cons h1 h2 => exact .cons h1 (DenL.take n h2)
theorem DenL.drop : ∀ {ds : List D} {vs : List V} (n : Nat), DenL K H vs ds → DenL K H (vs.drop n) (ds.drop n)
  | _, _, 0, h => by simpa using h
  | [], _, n + 1, h => by cases h; exact .nil
  | d :: ds, _, n + 1, h => by
    cases h with
    | cons h1 h2 => exact DenL.drop n h2
theorem DenL.get : ∀ {ds : List D} {vs : List V} {i : Nat} {d : D}, DenL K H vs ds → ds[i]? = some d → ∃ v, vs[i]? = some v ∧ Den K H v d
  | [], _, _, _, h, g => by simp at g
  | d :: ds, _, 0, _, h, g => by
    cases h with
    | cons h1 h2 => simp at g; subst g; exact ⟨_, rfl, h1⟩
  | d :: ds, _, i + 1, e, h, g => by
    cases h with
    | cons h1 h2 =>
      obtain ⟨v, h3, h4⟩ := DenL.get (i := i) (d := e) h2 (by simpa using g)
      exact ⟨v, by simpa using h3, h4⟩
theorem DenL.getV : ∀ {ds : List D} {vs : List V} {i : Nat} {v : V}, DenL K H vs ds → vs[i]? = some v → ∃ d, ds[i]? = some d ∧ Den K H v d
  | [], _, _, _, h, g => by cases h; simp at g
  | d :: ds, _, 0, _, h, g => by
    cases h with
    | cons h1 h2 => simp at g; subst g; exact ⟨_, rfl, h1⟩
  | d :: ds, _, i + 1, e, h, g => by
    cases h with
    | cons h1 h2 =>
      obtain ⟨v, h3, h4⟩ := DenL.getV (i := i) (v := e) h2 (by simpa using g)
      exact ⟨v, by simpa using h3, h4⟩
theorem DenL.set : ∀ {ds : List D} {vs : List V} (i : Nat) {v : V} {d : D}, DenL K H vs ds → Den K H v d → DenL K H (vs.set i v) (ds.set i d)
  | [], _, _, _, _, h, _ => by cases h; exact .nil
  | d :: ds, _, 0, _, _, h, g => by
    cases h with
    | cons h1 h2 => exact .cons g h2
  | d :: ds, _, i + 1, _, _, h, g => by
    cases h with
    | cons h1 h2 => exact .cons h1 (DenL.set i h2 g)
theorem DenL.reverse : ∀ {ds : List D} {vs : List V}, DenL K H vs ds → DenL K H vs.reverse ds.reverse
  | [], _, h => by cases h; exact .nil
  | d :: ds, _, h => by
    cases h with
    | cons h1 h2 => rw [List.reverse_cons, List.reverse_cons]; exact DenL.append (DenL.reverse h2) (.cons h1 .nil)
theorem DenL.dropLast {ds : List D} {vs : List V} (h : DenL K H vs ds) : DenL K H vs.dropLast ds.dropLast := by
  rw [List.dropLast_eq_take, List.dropLast_eq_take, h.length]
  exact DenL.take _ h
theorem DenL.eraseIdx : ∀ {ds : List D} {vs : List V} (i : Nat), DenL K H vs ds → DenL K H (vs.eraseIdx i) (ds.eraseIdx i)
  | [], _, _, h => by cases h; exact .nil
  | d :: ds, _, 0, h => by
    cases h with
    | cons h1 h2 => exact h2
  | d :: ds, _, i + 1, h => by
    cases h with
    | cons h1 h2 => exact .cons h1 (DenL.eraseIdx i h2)
theorem DenL.rep {ds : List D} {vs : List V} (h : DenL K H vs ds) : ∀ n : Nat, DenL K H (List.replicate n vs).flatten (List.replicate n ds).flatten
  | 0 => .nil
  | n + 1 => by
    rw [List.replicate_succ, List.replicate_succ, List.flatten_cons, List.flatten_cons]
    exact DenL.append h (DenL.rep h n)
theorem DenL.ints : ∀ {ns : List Int} {vs : List V}, DenL K H vs (ns.map D.int) → vs = ns.map V.int
  | [], _, h => by cases h; rfl
  | n :: ns, _, h => by
    cases h with
    | cons h1 h2 => cases h1; rw [DenL.ints h2]; rfl
theorem DenL.of_ints : ∀ (ns : List Int), DenL K H (ns.map V.int) (ns.map D.int)
  | [] => .nil
  | n :: ns => .cons (.int n) (DenL.of_ints ns)
theorem DenL.strs : ∀ {ns : List Str} {vs : List V}, DenL K H vs (ns.map D.str) → vs = ns.map V.str
  | [], _, h => by cases h; rfl
  | n :: ns, _, h => by
    cases h with
    | cons h1 h2 => cases h1; rw [DenL.strs h2]; rfl
theorem DenL.of_strs : ∀ (ns : List Str), DenL K H (ns.map V.str) (ns.map D.str)
  | [] => .nil
  | n :: ns => .cons (.str n) (DenL.of_strs ns)
end

/-- scalars -/
def D.scal : D → Bool
  | .non => true | .bl _ => true | .int _ => true | .str _ => true | _ => false
def D.toV : D → V
  | .bl b => .bl b | .int i => .int i | .str x => .str x | _ => .non
theorem den_scal {K : PySem.W.Frag} {H : Hp} {v : V} {d : D} (h : Den K H v d) (s : d.scal = true) : v = d.toV := by
  cases h <;> first | rfl | (simp [D.scal] at s)
theorem scal_den {K : PySem.W.Frag} {H : Hp} {d : D} (s : d.scal = true) : Den K H d.toV d := by
  cases d <;> simp [D.scal] at s
  · exact .non
  · exact .bl _
  · exact .int _
  · exact .str _

/-! ### plain data, for == -/
mutual
def D.py : D → Option PyData
  | .non => some .none | .bl b => some (.bool b) | .int i => some (.int i) | .str x => some (.str x)
  | .tup ds => (D.pyL ds).map .tuple
  | .lst ds => (D.pyL ds).map .list
  | .scr ds => (D.pyL ds).map .list
  | .ins _ _ _ => none
def D.pyL : List D → Option (List PyData)
  | [] => some []
  | d :: ds => match D.py d with
    | some p => match D.pyL ds with
      | some ps => some (p :: ps)
      | none => none
    | none => none
end
section
variable {K : PySem.W.Frag} {H : Hp}
mutual
theorem Den.dp : ∀ (d : D) (v : V) (p : PyData), Den K H v d → D.py d = some p → Dp K H v p
  | .non, _, _, h, e => by cases h; simp [D.py] at e; subst e; exact .non
  | .bl b, _, _, h, e => by cases h; simp [D.py] at e; subst e; exact .bl b
  | .int i, _, _, h, e => by cases h; simp [D.py] at e; subst e; exact .int i
  | .str x, _, _, h, e => by cases h; simp [D.py] at e; subst e; exact .str x
  | .tup ds, _, _, h, e => by
    cases h with
    | tup h1 h2 =>
      simp only [D.py, Option.map_eq_some_iff] at e
      obtain ⟨ps, e1, e2⟩ := e
      subst e2
      exact .tup h1 (DenL.dp ds _ ps h2 e1)
  | .lst ds, _, _, h, e => by
    cases h with
    | lst h1 h2 =>
      simp only [D.py, Option.map_eq_some_iff] at e
      obtain ⟨ps, e1, e2⟩ := e
      subst e2
      exact .lst (SqL.of h1) (DenL.dp ds _ ps h2 e1)
  | .scr ds, _, _, h, e => by
    cases h with
    | scr h1 h2 =>
      simp only [D.py, Option.map_eq_some_iff] at e
      obtain ⟨ps, e1, e2⟩ := e
      subst e2
      exact .lst h1 (DenL.dp ds _ ps h2 e1)
  | .ins C ns ds, _, _, h, e => by simp [D.py] at e
theorem DenL.dp : ∀ (ds : List D) (vs : List V) (ps : List PyData), DenL K H vs ds → D.pyL ds = some ps → DpAll K H vs ps
  | [], _, _, h, e => by cases h; simp [D.pyL] at e; subst e; exact .nil
  | d :: ds, _, _, h, e => by
    cases h with
    | cons h1 h2 =>
      cases ep : D.py d with
      | none => simp [D.pyL, ep] at e
      | some p =>
        cases eq : D.pyL ds with
        | none => simp [D.pyL, ep, eq] at e
        | some ps =>
          simp [D.pyL, ep, eq] at e
          subst e
          exact .cons (Den.dp d _ p h1 ep) (DenL.dp ds _ ps h2 eq)
end
end

/-! ### worlds -/
/-- H: the abstract heap; F: what is settled; G: F and the lists that stand as they are now -/
structure Wd where
  H : Hp
  G : Hp
  F : Hp
def Wd.at (W : Wd) (b : Bool) : Hp := if b then W.F else W.G
def isTup : HO → Bool
  | .tup _ => true
  | .frz _ (.tup _) => true
  | _ => false
structure WOk (W : Wd) : Prop where
  fg : Same W.F W.G
  gh : Same W.G W.H
  /-- tuples that stand are settled -/
  gt : ∀ a u, W.G a = some u → isTup u = true → W.F a = some u
structure Gr (W W' : Wd) : Prop where
  h : Same W.H W'.H
  g : Same W.G W'.G
  f : Same W.F W'.F
  go : ∀ a o, W.H a = some o → W'.G a = W.G a
  fo : ∀ a o, W.H a = some o → W'.F a = W.F a
theorem Gr.refl (W : Wd) : Gr W W := ⟨Same.refl _, Same.refl _, Same.refl _, fun _ _ _ => rfl, fun _ _ _ => rfl⟩
theorem Gr.trans {W1 W2 W3 : Wd} (a : Gr W1 W2) (b : Gr W2 W3) : Gr W1 W3 :=
  ⟨a.h.trans b.h, a.g.trans b.g, a.f.trans b.f, fun c o h => (b.go c o (a.h c o h)).trans (a.go c o h), fun c o h => (b.fo c o (a.h c o h)).trans (a.fo c o h)⟩
theorem Gr.at {W W' : Wd} (a : Gr W W') (b : Bool) : Same (W.at b) (W'.at b) := by
  cases b
  · exact a.g
  · exact a.f
theorem WOk.fh {W : Wd} (k : WOk W) : Same W.F W.H := k.fg.trans k.gh
theorem WOk.atG {W : Wd} (k : WOk W) (b : Bool) : Same (W.at b) W.G := by
  cases b
  · exact Same.refl _
  · exact k.fg
theorem WOk.atH {W : Wd} (k : WOk W) (b : Bool) : Same (W.at b) W.H := (k.atG b).trans k.gh
theorem WOk.nG {W : Wd} (k : WOk W) {a : Addr} (h : W.H a = none) : W.G a = none := k.gh.free h
theorem WOk.nF {W : Wd} (k : WOk W) {a : Addr} (h : W.H a = none) : W.F a = none := k.fg.free (k.nG h)
/-- a new object that is settled (b) or stands (not b) -/
def Wd.new (W : Wd) (b : Bool) (p : Addr) (o : HO) : Wd := ⟨upd W.H p o, upd W.G p o, if b || isTup o then upd W.F p o else W.F⟩
theorem same_upd {H : Hp} {p : Addr} {o : HO} (h : H p = none) : Same H (upd H p o) := fun a u e => by
  rw [upd_ne (ne_of_none e h)]; exact e
theorem same_upd2 {H H' : Hp} {p : Addr} {o : HO} (e : Same H H') : Same (upd H p o) (upd H' p o) := fun a u q => by
  by_cases h : a = p
  · subst h; rw [upd_same] at q ⊢; exact q
  · rw [upd_ne h] at q ⊢; exact e a u q
theorem new_F {W : Wd} {b : Bool} {p : Addr} {o : HO} : (W.new b p o).F = upd W.F p o ∨ ((W.new b p o).F = W.F ∧ b = false ∧ isTup o = false) := by
  show (if b || isTup o then upd W.F p o else W.F) = _ ∨ (if b || isTup o then upd W.F p o else W.F) = _ ∧ _
  cases b with
  | true => exact .inl rfl
  | false =>
    cases h : isTup o with
    | true => exact .inl rfl
    | false => exact .inr ⟨rfl, rfl, rfl⟩
theorem new_ok {W : Wd} (k : WOk W) {b : Bool} {p : Addr} {o : HO} (h : W.H p = none) : WOk (W.new b p o) := by
  refine ⟨?_, same_upd2 k.gh, fun a xs e ht => ?_⟩
  · rcases new_F (W := W) (b := b) (p := p) (o := o) with q | ⟨q, _⟩
    · rw [q]; exact same_upd2 k.fg
    · rw [q]; exact k.fg.trans (same_upd (k.nG h))
  · have e' : upd W.G p o a = some xs := e
    by_cases ha : a = p
    · subst ha
      rw [upd_same] at e'
      cases e'
      rcases new_F (W := W) (b := b) (p := a) (o := o) with q | ⟨q, _, q3⟩
      · rw [q, upd_same]
      · rw [q3] at ht; cases ht
    · rw [upd_ne ha] at e'
      have := k.gt a xs e' ht
      rcases new_F (W := W) (b := b) (p := p) (o := o) with q | ⟨q, _⟩
      · rw [q, upd_ne ha]; exact this
      · rw [q]; exact this
theorem new_gr {W : Wd} (k : WOk W) {b : Bool} {p : Addr} {o : HO} (h : W.H p = none) : Gr W (W.new b p o) := by
  refine ⟨same_upd h, same_upd (k.nG h), ?_, fun a u e => ?_, fun a u e => ?_⟩
  · rcases new_F (W := W) (b := b) (p := p) (o := o) with q | ⟨q, _⟩
    · rw [q]; exact same_upd (k.nF h)
    · rw [q]; exact Same.refl _
  · exact upd_ne (ne_of_none e h)
  · rcases new_F (W := W) (b := b) (p := p) (o := o) with q | ⟨q, _⟩
    · rw [q]; exact upd_ne (ne_of_none e h)
    · rw [q]
theorem new_at {W : Wd} {b : Bool} {p : Addr} {o : HO} : (W.new b p o).at b = upd (W.at b) p o := by
  cases b <;> rfl
theorem new_self {W : Wd} {b : Bool} {p : Addr} {o : HO} : ((W.new b p o).at b) p = some o := by
  rw [new_at, upd_same]
theorem new_denL {K : PySem.W.Frag} {W : Wd} (k : WOk W) {b : Bool} {p : Addr} {o : HO} (h : W.H p = none) {vs : List V} {ds : List D} (hd : DenL K (W.at b) vs ds) : DenL K ((W.new b p o).at b) vs ds :=
  hd.up ((new_gr k h).at b)

/-! ### cells -/
inductive Cell where
  /-- settled data -/
  | fz (d : D)
  /-- a list of one's own -/
  | own (ds : List D)
  /-- the instance that __init__ fills; where it stands, and its dict: told by W0's G -/
  | slf (C : Addr) (ns : List Str) (ds : List D)
  /-- the exception, of the class at C, that the suite holds -/
  | exc (C : Addr) (ns : List Str) (ds : List D)
abbrev Env := List (Option Cell)
/-- where the exception that a suite holds stands, and its dict: told by W0's G, which is used for nothing else -/
def Wd.xa (W0 : Wd) : Addr := match W0.G 0 with
  | some (.own a) => a
  | _ => 0
def Wd.xd (W0 : Wd) : Addr := match W0.G 1 with
  | some (.own a) => a
  | _ => 0
def Wd.sa (W0 : Wd) : Addr := match W0.G 2 with
  | some (.own a) => a
  | _ => 0
def Wd.sd (W0 : Wd) : Addr := match W0.G 3 with
  | some (.own a) => a
  | _ => 0
def CellOk (K : PySem.W.Frag) (W0 W : Wd) : Option V → Option Cell → Prop
  | _, none => True
  | x, some (.fz d) => ∃ v, x = some v ∧ Den K W.F v d
  | x, some (.own ds) => ∃ l vs, x = some (.ref l) ∧ W.H l = some (.lst vs) ∧ W.G l = some (.lst vs) ∧ W.F l = none ∧ W0.H l = none ∧ DenL K W.F vs ds
  | x, some (.slf C ns ds) => ∃ fs, x = some (.ref W0.sa) ∧ W.H W0.sa = some (.ins C W0.sd fs) ∧ W.G W0.sa = none ∧ W.F W0.sa = none ∧ W0.H W0.sa = none ∧ fs.map (·.1) = ns ∧ DenL K W.F (fs.map (·.2)) ds
  | x, some (.exc C ns ds) => ∃ fs, x = some (.ref W0.xa) ∧ W.H W0.xd = some (.xd fs) ∧ fs.map (·.1) = ns ∧ DenL K W.F (fs.map (·.2)) ds
/-- the cell holds the object at l -/
def cobj : Option Cell → Bool
  | some (.own _) => true | some (.slf _ _ _) => true | _ => false
def Holds (x : Option V) (c : Option Cell) (l : Addr) : Prop := x = some (.ref l) ∧ cobj c = true
structure SD (K : PySem.W.Frag) (W0 W : Wd) (σ : L2.St) (c : Env) : Prop where
  len : σ.length = c.length
  ok : ∀ (i : Nat) x y, σ[i]? = some x → c[i]? = some y → CellOk K W0 W x y
  one : ∀ (i j : Nat) x y z u l, σ[i]? = some x → c[i]? = some y → σ[j]? = some z → c[j]? = some u → Holds x y l → Holds z u l → i = j
theorem SD.at {K : PySem.W.Frag} {W0 W : Wd} {σ : L2.St} {c : Env} (s : SD K W0 W σ c) {i : Nat} {y : Option Cell} (h : c[i]? = some y) : ∃ x, σ[i]? = some x ∧ CellOk K W0 W x y := by
  have hi : i < σ.length := by rw [s.len]; exact (List.getElem?_eq_some_iff.mp h).1
  exact ⟨σ[i], List.getElem?_eq_getElem hi, s.ok i _ y (List.getElem?_eq_getElem hi) h⟩
theorem CellOk.gr {K : PySem.W.Frag} {W0 W W' : Wd} (g : Gr W W') : ∀ {x : Option V} {y : Option Cell}, CellOk K W0 W x y → CellOk K W0 W' x y
  | _, none, _ => trivial
  | _, some (.fz d), ⟨v, h1, h2⟩ => ⟨v, h1, Den.mono g.f _ _ h2⟩
  | _, some (.own ds), ⟨l, vs, h1, h2, h3, h4, h5, h6⟩ => ⟨l, vs, h1, g.h _ _ h2, (g.go _ _ h2).trans h3, (g.fo _ _ h2).trans h4, h5, DenL.mono g.f _ _ h6⟩
  | _, some (.slf C ns ds), ⟨fs, h1, h2, h3, h4, h5, h6, h7⟩ => ⟨fs, h1, g.h _ _ h2, (g.go _ _ h2).trans h3, (g.fo _ _ h2).trans h4, h5, h6, DenL.mono g.f _ _ h7⟩
  | _, some (.exc C ns ds), ⟨fs, h1, h2, h3, h4⟩ => ⟨fs, h1, g.h _ _ h2, h3, DenL.mono g.f _ _ h4⟩
theorem SD.gr {K : PySem.W.Frag} {W0 W W' : Wd} {σ : L2.St} {c : Env} (s : SD K W0 W σ c) (g : Gr W W') : SD K W0 W' σ c :=
  ⟨s.len, fun i x y h1 h2 => (s.ok i x y h1 h2).gr g, s.one⟩
/-- all since the entry -/
structure Up (W0 W : Wd) : Prop where
  h : Same W0.H W.H
  f : Same W0.F W.F
  fo : ∀ a o, W0.H a = some o → W.F a = W0.F a
theorem Up.gr {W0 W W' : Wd} (u : Up W0 W) (g : Gr W W') : Up W0 W' := ⟨u.h.trans g.h, u.f.trans g.f, fun a o h => (g.fo a o (u.h a o h)).trans (u.fo a o h)⟩

/-! ### readings by functions of cells -/
abbrev GE := Env → Option D
abbrev GB := Env → Option Bool
abbrev GA := Env → Option (List D)
/-- an expression: b: its value is settled, or stands -/
def VT (K : PySem.W.Frag) (W0 : Wd) (b : Bool) (te : TE) (g : GE) : Prop :=
  ∀ (W : Wd) (σ : L2.St) (c : Env) (d : D) (Q : VK), WOk W → Up W0 W → SD K W0 W σ c → g c = some d → (∀ W' v, WOk W' → Gr W W' → Den K (W'.at b) v d → Q v W'.H) → te σ W.H Q
/-- a test -/
def VB (K : PySem.W.Frag) (W0 : Wd) (tt : TT) (g : GB) : Prop :=
  ∀ (W : Wd) (σ : L2.St) (c : Env) (d : Bool) (Q : Bool → Hp → Prop), WOk W → Up W0 W → SD K W0 W σ c → g c = some d → (∀ W', WOk W' → Gr W W' → Q d W'.H) → tt σ W.H Q
/-- arguments -/
def VArg (K : PySem.W.Frag) (W0 : Wd) (b : Bool) (ta : TA) (g : GA) : Prop :=
  ∀ (W : Wd) (σ : L2.St) (c : Env) (ds : List D) (Q : List V → Hp → Prop), WOk W → Up W0 W → SD K W0 W σ c → g c = some ds → (∀ W' vs, WOk W' → Gr W W' → DenL K (W'.at b) vs ds → Q vs W'.H) → ta σ W.H Q
/-- a list that is new -/
def VN (K : PySem.W.Frag) (W0 : Wd) (te : TE) (g : GA) : Prop :=
  ∀ (W : Wd) (σ : L2.St) (c : Env) (ds : List D) (Q : VK), WOk W → Up W0 W → SD K W0 W σ c → g c = some ds →
    (∀ W' l vs, WOk W' → Gr W W' → W'.H l = none → DenL K W'.F vs ds → Q (.ref l) (upd W'.H l (.lst vs))) → te σ W.H Q

section
variable {K : PySem.W.Frag} {b : Bool} {te ta tb : TE} {g ga gb : GE}
theorem VT.weak (h : VT K W0 true te g) : VT K W0 b te g := by
  cases b
  · intro W σ c d Q k u s e q
    exact h W σ c d Q k u s e fun W' v k' g' hd => q W' v k' g' (Den.mono k'.fg _ _ hd)
  · exact h
/-- a scalar is settled -/
def gScal (g : GE) : GE := fun c => match g c with
  | some d => if d.scal then some d else none
  | none => none
theorem gScal_some {g : GE} {c : Env} {d : D} (h : gScal g c = some d) : g c = some d ∧ d.scal = true := by
  unfold gScal at h
  split at h
  · rename_i e he
    by_cases hs : e.scal = true
    · rw [if_pos hs] at h; cases h; exact ⟨he, hs⟩
    · rw [if_neg hs] at h; cases h
  · cases h
theorem vt_scal {b' : Bool} (h : VT K W0 b' te g) : VT K W0 b te (gScal g) := by
  intro W σ c d Q k u s e q
  obtain ⟨e1, e2⟩ := gScal_some e
  refine h W σ c d Q k u s e1 fun W' v k' g' hd => q W' v k' g' ?_
  rw [den_scal hd e2]
  exact scal_den e2
theorem VN.vt {g : GA} (h : VN K W0 te g) : VT K W0 b te (fun c => (g c).map D.lst) := by
  intro W σ c d Q k u s e q
  simp only [Option.map_eq_some_iff] at e
  obtain ⟨ds, e1, e2⟩ := e
  subst e2
  refine h W σ c ds Q k u s e1 fun W' l vs k' g' hl hd => ?_
  exact q (W'.new b l (.lst vs)) _ (new_ok k' hl) (g'.trans (new_gr k' hl)) (.lst new_self (new_denL k' hl (hd.up (by cases b; exact k'.fg; exact Same.refl _))))

/-! names and constants -/
def gVar (i : Nat) : GE := fun c => match c[i]? with
  | some (some (.fz d)) => some d
  | _ => none
def gLook (i : Nat) : GE := fun c => match c[i]? with
  | some (some (.fz d)) => some d
  | some (some (.own ds)) => some (.lst ds)
  | _ => none
def gC (d : D) : GE := fun _ => some d
theorem vt_var (i : Nat) : VT K W0 b (tVar i) (gVar i) := by
  intro W σ c d Q k u s e q
  unfold gVar at e
  split at e
  · rename_i d' hc
    cases e
    obtain ⟨x, hx, v, rfl, hd⟩ := s.at hc
    exact ⟨v, hx, q W v k (Gr.refl W) (hd.up (by cases b; exact k.fg; exact Same.refl _))⟩
  · cases e
theorem vt_look (i : Nat) : VT K W0 false (tVar i) (gLook i) := by
  intro W σ c d Q k u s e q
  unfold gLook at e
  split at e
  · rename_i d' hc
    cases e
    obtain ⟨x, hx, v, rfl, hd⟩ := s.at hc
    exact ⟨v, hx, q W v k (Gr.refl W) (hd.up k.fg)⟩
  · rename_i ds hc
    cases e
    obtain ⟨x, hx, l, vs, rfl, h1, h2, h3, h4, h5⟩ := s.at hc
    exact ⟨_, hx, q W _ k (Gr.refl W) (.lst h2 (h5.up k.fg))⟩
  · cases e
theorem vt_int {i : Int} : VT K W0 b (tC (.int i)) (gC (.int i)) := by
  intro W σ c d Q k u s e q
  cases e
  exact q W _ k (Gr.refl W) (.int i)
theorem vt_bl {i : Bool} : VT K W0 b (tC (.bl i)) (gC (.bl i)) := by
  intro W σ c d Q k u s e q
  cases e
  exact q W _ k (Gr.refl W) (.bl i)
theorem vt_str {x : Str} : VT K W0 b (tC (.str x)) (gC (.str x)) := by
  intro W σ c d Q k u s e q
  cases e
  exact q W _ k (Gr.refl W) (.str x)
theorem vt_non : VT K W0 b (tC .non) (gC .non) := by
  intro W σ c d Q k u s e q
  cases e
  exact q W _ k (Gr.refl W) .non

/-! operators on two values -/
def g2 (f : D → D → Option D) (ga gb : GE) : GE := fun c => match ga c with
  | some x => match gb c with
    | some y => f x y
    | none => none
  | none => none
theorem g2_some {f : D → D → Option D} {ga gb : GE} {c : Env} {d : D} (h : g2 f ga gb c = some d) : ∃ x y, ga c = some x ∧ gb c = some y ∧ f x y = some d := by
  unfold g2 at h
  split at h
  · rename_i x hx
    split at h
    · rename_i y hy
      exact ⟨x, y, hx, hy, h⟩
    · cases h
  · cases h
/-- the operation r does f, its value as settled as its operands -/
def RO (K : PySem.W.Frag) (r : R2) (f : D → D → Option D) : Prop :=
  ∀ (b : Bool) (W : Wd) (x y : V) (d e z : D) (Q : VK), WOk W → Den K (W.at b) x d → Den K (W.at b) y e → f d e = some z → (∀ W' v, WOk W' → Gr W W' → Den K (W'.at b) v z → Q v W'.H) → r x y W.H Q
/-- .. its value a scalar -/
def ROS (K : PySem.W.Frag) (r : R2) (f : D → D → Option D) : Prop :=
  ∀ (W : Wd) (x y : V) (d e z : D) (Q : VK), WOk W → Den K W.G x d → Den K W.G y e → f d e = some z → (∀ v, (∀ H, Den K H v z) → Q v W.H) → r x y W.H Q
theorem vt_op {r : R2} {f : D → D → Option D} (hr : RO K r f) (ha : VT K W0 b ta ga) (hb : VT K W0 b tb gb) : VT K W0 b (tOp r ta tb) (g2 f ga gb) := by
  intro W σ c d Q k u s e q
  obtain ⟨x, y, ex, ey, ef⟩ := g2_some e
  refine ha W σ c x _ k u s ex fun W1 v1 k1 g1 d1 => ?_
  refine hb W1 σ c y _ k1 (u.gr g1) (s.gr g1) ey fun W2 v2 k2 g2 d2 => ?_
  exact hr b W2 v1 v2 x y d Q k2 (d1.up (g2.at b)) d2 ef fun W3 v3 k3 g3 d3 => q W3 v3 k3 (g1.trans (g2.trans g3)) d3
theorem vt_opS {b1 b2 : Bool} {r : R2} {f : D → D → Option D} (hr : ROS K r f) (ha : VT K W0 b1 ta ga) (hb : VT K W0 b2 tb gb) : VT K W0 b (tOp r ta tb) (g2 f ga gb) := by
  intro W σ c d Q k u s e q
  obtain ⟨x, y, ex, ey, ef⟩ := g2_some e
  refine ha W σ c x _ k u s ex fun W1 v1 k1 g1 d1 => ?_
  refine hb W1 σ c y _ k1 (u.gr g1) (s.gr g1) ey fun W2 v2 k2 g2 d2 => ?_
  exact hr W2 v1 v2 x y d Q k2 (d1.up ((g2.at b1).trans (k2.atG b1))) (d2.up (k2.atG b2)) ef fun v hv => q W2 v k2 (g1.trans g2) (hv _)
end
end VL
end

section
/-! VB: operators, tests, subscripts, built-in calls by data. -/
namespace VL
open PySem PySem.Spec PyProof.Rows L2

/-! ### + -/
def dAdd : D → D → Option D
  | .int i, .int j => some (.int (i + j))
  | .str a, .str b => if a.length + b.length ≤ sizeLine then some (.str (a ++ b)) else none
  | .lst a, .lst b => if a.length + b.length ≤ sizeLine then some (.lst (a ++ b)) else none
  | .tup a, .tup b => if a.length + b.length ≤ sizeLine then some (.tup (a ++ b)) else none
  | _, _ => none
def rAddU (K : PySem.W.Frag) : R2 := fun x y H Q => rI0 (fun i j => .int (i + j)) x y H Q ∨ (∃ i j, x = .str i ∧ y = .str j ∧ i.length + j.length ≤ sizeLine ∧ Q (.str (i ++ j)) H) ∨ rCat x y H Q ∨ rCatA K x y H Q
theorem op_addU {X : Cx} : OpR X (binaryOp .Add) (rAddU X.K) := op_add.or (op_add_str.or (op_cat.or op_catA))
theorem ro_add {K : PySem.W.Frag} : RO K (rAddU K) dAdd := by
  intro b W x y d e z Q k hx hy hf q
  unfold dAdd at hf
  split at hf
  · cases hf; cases hx; cases hy
    exact .inl ⟨_, _, rfl, rfl, q W _ k (Gr.refl W) (.int _)⟩
  · split at hf
    · rename_i hz
      cases hf; cases hx; cases hy
      exact .inr (.inl ⟨_, _, rfl, rfl, hz, q W _ k (Gr.refl W) (.str _)⟩)
    · cases hf
  · split at hf
    · rename_i hz
      cases hf
      cases hx with
      | lst h1 h2 =>
        cases hy with
        | lst h3 h4 =>
          refine .inr (.inr (.inl ⟨_, _, _, _, rfl, rfl, k.atH b _ _ h1, k.atH b _ _ h3, by rw [h2.length, h4.length]; exact hz, fun p hp => ?_⟩))
          exact q (W.new b p _) _ (new_ok k hp) (new_gr k hp) (.lst new_self (new_denL k hp (h2.append h4)))
    · cases hf
  · split at hf
    · rename_i hz
      cases hf
      cases hx with
      | @tup a1 xs1 _ h1 h2 =>
        cases hy with
        | @tup a2 xs2 _ h3 h4 =>
          refine .inr (.inr (.inr ⟨_, _, _, _, rfl, rfl, sqT_same (k.atH b) h1, sqT_same (k.atH b) h3, by rw [h2.length, h4.length]; exact hz, fun e1 => ?_, fun _ e2 => ?_, fun _ _ p hp => ?_⟩))
          · refine q W _ k (Gr.refl W) (.tup h3 ?_)
            have z := h2.append h4
            rw [e1] at z
            exact z
          · refine q W _ k (Gr.refl W) (.tup h1 ?_)
            have z := h2.append h4
            rw [e2, List.append_nil] at z
            exact z
          · exact q (W.new b p _) _ (new_ok k hp) (new_gr k hp) (.tup (SqT.of new_self) (new_denL k hp (h2.append h4)))
    · cases hf
  · cases hf

/-! ### ints -/
def dI (C : Int → Int → Prop) [∀ i j, Decidable (C i j)] (f : Int → Int → Int) : D → D → Option D
  | .int i, .int j => if C i j then some (.int (f i j)) else none
  | _, _ => none
theorem ros_I {K : PySem.W.Frag} {C : Int → Int → Prop} [∀ i j, Decidable (C i j)] {f : Int → Int → Int} : ROS K (rI C fun i j => .int (f i j)) (dI C f) := by
  intro W x y d e z Q k hx hy hf q
  unfold dI at hf
  split at hf
  · split at hf
    · rename_i hc
      cases hf; cases hx; cases hy
      exact ⟨_, _, rfl, rfl, hc, q _ fun H => .int _⟩
    · cases hf
  · cases hf
def dSub : D → D → Option D
  | .int i, .int j => some (.int (i - j))
  | _, _ => none
theorem ros_sub {K : PySem.W.Frag} : ROS K (rI0 fun i j => .int (i - j)) dSub := by
  intro W x y d e z Q k hx hy hf q
  unfold dSub at hf
  split at hf
  · cases hf; cases hx; cases hy
    exact ⟨_, _, rfl, rfl, q _ fun H => .int _⟩
  · cases hf
instance : ∀ i j, Decidable (CMul i j) := fun i j => by unfold CMul; infer_instance
instance : ∀ i j, Decidable (CDivW i j) := fun i j => by unfold CDivW; infer_instance
instance : ∀ i j, Decidable (CPow i j) := fun i j => by unfold CPow; infer_instance
abbrev PosR (i j : Int) : Prop := 0 < j
abbrev dMulI : D → D → Option D := dI CMul fun i j => i * j
abbrev dFdiv : D → D → Option D := dI CDivW fun i j => i / j
abbrev dMod : D → D → Option D := dI PosR fun i j => i % j
abbrev dPow : D → D → Option D := dI CPow fun i j => i ^ j.toNat
/-- ints, a list times an int -/
def dMul : D → D → Option D
  | .int i, .int j => if CMul i j then some (.int (i * j)) else none
  | .lst a, .int j => if 0 ≤ j ∧ j < 2 ^ 63 ∧ a.length * j.toNat ≤ sizeLine then some (.lst (List.replicate j.toNat a).flatten) else none
  | _, _ => none
def rMulU : R2 := fun x y H Q => rI CMul (fun i j => .int (i * j)) x y H Q ∨ rRep x y H Q
theorem op_mulU {X : Cx} : OpR X (binaryOp .Mult) rMulU := op_mul.or op_rep
theorem ro_mul {K : PySem.W.Frag} : RO K rMulU dMul := by
  intro b W x y d e z Q k hx hy hf q
  unfold dMul at hf
  split at hf
  · split at hf
    · rename_i hc
      cases hf; cases hx; cases hy
      exact .inl ⟨_, _, rfl, rfl, hc, q W _ k (Gr.refl W) (.int _)⟩
    · cases hf
  · split at hf
    · rename_i hc
      cases hf; cases hy
      cases hx with
      | lst h1 h2 =>
        refine .inr ⟨_, _, _, rfl, rfl, k.atH b _ _ h1, by omega, hc.2.1, by rw [h2.length]; exact hc.2.2, fun p hp => ?_⟩
        exact q (W.new b p _) _ (new_ok k hp) (new_gr k hp) (.lst new_self (new_denL k hp (h2.rep _)))
    · cases hf
  · cases hf
def dNeg : D → Option D
  | .int i => some (.int (-i))
  | _ => none

/-! ### order -/
def dCmp (f : Int → Int → Bool) (g : Str → Str → Bool) : D → D → Option D
  | .int i, .int j => some (.bl (f i j))
  | .str a, .str b => some (.bl (g a b))
  | _, _ => none
def rCmpU (f : Int → Int → Bool) (g : Str → Str → Bool) : R2 := fun x y H Q => rI0 (fun i j => .bl (f i j)) x y H Q ∨ (∃ i j, x = .str i ∧ y = .str j ∧ Q (.bl (g i j)) H)
theorem ros_cmp {K : PySem.W.Frag} {f : Int → Int → Bool} {g : Str → Str → Bool} : ROS K (rCmpU f g) (dCmp f g) := by
  intro W x y d e z Q k hx hy hf q
  unfold dCmp at hf
  split at hf
  · cases hf; cases hx; cases hy
    exact .inl ⟨_, _, rfl, rfl, q _ fun H => .bl _⟩
  · cases hf; cases hx; cases hy
    exact .inr ⟨_, _, rfl, rfl, q _ fun H => .bl _⟩
  · cases hf
abbrev rLtU : R2 := rCmpU (fun i j => decide (i < j)) (fun i j => decide (i.cps.toList < j.cps.toList))
abbrev rLeU : R2 := rCmpU (fun i j => decide (i ≤ j)) (fun i j => !decide (j.cps.toList < i.cps.toList))
abbrev rGtU : R2 := rCmpU (fun i j => decide (j < i)) (fun i j => decide (j.cps.toList < i.cps.toList))
abbrev rGeU : R2 := rCmpU (fun i j => decide (j ≤ i)) (fun i j => !decide (i.cps.toList < j.cps.toList))
abbrev dLt : D → D → Option D := dCmp (fun i j => decide (i < j)) (fun i j => decide (i.cps.toList < j.cps.toList))
abbrev dLe : D → D → Option D := dCmp (fun i j => decide (i ≤ j)) (fun i j => !decide (j.cps.toList < i.cps.toList))
abbrev dGt : D → D → Option D := dCmp (fun i j => decide (j < i)) (fun i j => decide (j.cps.toList < i.cps.toList))
abbrev dGe : D → D → Option D := dCmp (fun i j => decide (j ≤ i)) (fun i j => !decide (i.cps.toList < j.cps.toList))
section
variable {X : Cx}
theorem op_ltU : OpR X (compareOp .Lt) rLtU := op_lt.or op_lt_str
theorem op_leU : OpR X (compareOp .LtE) rLeU := op_le.or op_le_str
theorem op_gtU : OpR X (compareOp .Gt) rGtU := op_gt.or op_gt_str
theorem op_geU : OpR X (compareOp .GtE) rGeU := op_ge.or op_ge_str
end

/-! ### ==, != -/
def dEqG (x y : D) : Option Bool := match x.py, y.py with
  | some p, some q => if SeqAt.shaped p = true ∧ SeqAt.shaped q = true then some (PyData.eqv p q) else none
  | _, _ => none
def dEqB : D → D → Option Bool
  | .int i, .int j => some (decide (i = j))
  | .str a, .str b => some (decide (a = b))
  | x, y => dEqG x y
def dEq (x y : D) : Option D := (dEqB x y).map .bl
def dNe (x y : D) : Option D := (dEqB x y).map fun b => .bl (!b)
theorem shaped_int (i : Int) : SeqAt.shaped (.int i) = true := by simp [SeqAt.shaped, PyData.canLay0, PyData.depth]
theorem dEqB_run {K : PySem.W.Frag} {H H' : Hp} (e : Same H H') {x y : V} {d f : D} {b : Bool} (hx : Den K H x d) (hy : Den K H y f) (h : dEqB d f = some b) :
    (∃ p q, Dp K H' x p ∧ Dp K H' y q ∧ SeqAt.shaped p = true ∧ SeqAt.shaped q = true ∧ PyData.eqv p q = b) ∨ (scal x y = true ∧ decide (x = y) = b) := by
  unfold dEqB at h
  split at h
  · cases h; cases hx; cases hy
    exact .inl ⟨_, _, .int _, .int _, shaped_int _, shaped_int _, by simp only [PyData.eqv]; exact Bool.beq_eq_decide_eq _ _⟩
  · cases h; cases hx; cases hy
    exact .inr ⟨rfl, by simp⟩
  · unfold dEqG at h
    split at h
    · rename_i p q hp hq
      split at h
      · rename_i hs
        cases h
        exact .inl ⟨p, q, (Den.dp _ _ _ (hx.up e) hp), (Den.dp _ _ _ (hy.up e) hq), hs.1, hs.2, rfl⟩
      · cases h
    · cases h
def rEqU (K : PySem.W.Frag) : R2 := fun x y H Q => rEqD K x y H Q ∨ rEq x y H Q
def rNeU (K : PySem.W.Frag) : R2 := fun x y H Q => rNeD K x y H Q ∨ rNe x y H Q
theorem op_eqU {X : Cx} (hu : X.A.units + 64 < cLine) : OpR X (compareOp .Eq) (rEqU X.K) := (op_eqD hu).or op_eq
theorem op_neU {X : Cx} (hu : X.A.units + 64 < cLine) : OpR X (compareOp .NotEq) (rNeU X.K) := (op_neD hu).or op_ne
theorem ros_eq {K : PySem.W.Frag} : ROS K (rEqU K) dEq := by
  intro W x y d e z Q k hx hy hf q
  simp only [dEq, Option.map_eq_some_iff] at hf
  obtain ⟨b, h1, h2⟩ := hf
  subst h2
  rcases dEqB_run k.gh hx hy h1 with ⟨p, r, a1, a2, a3, a4, a5⟩ | ⟨a1, a2⟩
  · exact .inl ⟨p, r, a1, a2, a3, a4, by rw [a5]; exact q _ fun H => .bl _⟩
  · exact .inr ⟨a1, by rw [a2]; exact q _ fun H => .bl _⟩
theorem ros_ne {K : PySem.W.Frag} : ROS K (rNeU K) dNe := by
  intro W x y d e z Q k hx hy hf q
  simp only [dNe, Option.map_eq_some_iff] at hf
  obtain ⟨b, h1, h2⟩ := hf
  subst h2
  rcases dEqB_run k.gh hx hy h1 with ⟨p, r, a1, a2, a3, a4, a5⟩ | ⟨a1, a2⟩
  · exact .inl ⟨p, r, a1, a2, a3, a4, by rw [a5]; exact q _ fun H => .bl _⟩
  · exact .inr ⟨a1, by rw [a2]; exact q _ fun H => .bl _⟩

/-! ### in, is -/
def D.items : D → Option (List D)
  | .lst ds => some ds | .tup ds => some ds | .scr ds => some ds | _ => none
theorem den_items {K : PySem.W.Frag} {H : Hp} {v : V} {d : D} {ds : List D} (h : Den K H v d) (e : d.items = some ds) : ∃ a xs, v = .ref a ∧ (SqL K H a xs ∨ SqT K H a xs) ∧ DenL K H xs ds := by
  cases h <;> simp [D.items] at e <;> subst e
  · exact ⟨_, _, rfl, .inr (by assumption), by assumption⟩
  · exact ⟨_, _, rfl, .inl (SqL.of (by assumption)), by assumption⟩
  · exact ⟨_, _, rfl, .inl (by assumption), by assumption⟩
theorem denL_scal {K : PySem.W.Frag} {H : Hp} : ∀ {ds : List D} {vs : List V}, DenL K H vs ds → ds.all D.scal = true → vs = ds.map D.toV
  | [], _, h, _ => by cases h; rfl
  | d :: ds, _, h, e => by
    cases h with
    | cons h1 h2 =>
      rw [List.all_cons, Bool.and_eq_true] at e
      rw [den_scal h1 e.1, denL_scal h2 e.2]
      rfl
theorem flat_toV : ∀ d : D, flatV d.toV = true := by intro d; cases d <;> rfl
theorem flat_all (ds : List D) : (ds.map D.toV).all flatV = true := by
  rw [List.all_map, List.all_eq_true]
  intro d _
  exact flat_toV d
def dInB : D → D → Option Bool
  | .str a, .str b => match a.cps.toList with
    | [c] => some (decide (c ∈ b.cps.toList))
    | _ => none
  | x, y => match y.items with
    | some ds => if x.scal = true ∧ ds.all D.scal = true then some ((ds.map D.toV).any fun v => eqV v x.toV) else none
    | none => none
def dIn (x y : D) : Option D := (dInB x y).map .bl
def dNotIn (x y : D) : Option D := (dInB x y).map fun b => .bl (!b)
def rInU (K : PySem.W.Frag) : R2 := fun x y H Q => rIn K false x y H Q ∨ (∃ (c : Nat) (z : Str), x = .str ⟨#[c]⟩ ∧ y = .str z ∧ Q (.bl (decide (c ∈ z.cps.toList))) H)
def rNotInU (K : PySem.W.Frag) : R2 := fun x y H Q => rIn K true x y H Q ∨ (∃ (c : Nat) (z : Str), x = .str ⟨#[c]⟩ ∧ y = .str z ∧ Q (.bl (!decide (c ∈ z.cps.toList))) H)
theorem op_inU {X : Cx} : OpR X (compareOp .In) (rInU X.K) := op_in_seq.or op_in_sign
theorem op_notInU {X : Cx} : OpR X (compareOp .NotIn) (rNotInU X.K) := op_notIn_seq.or op_notIn_sign
theorem str_one {a : Str} {c : Nat} (h : a.cps.toList = [c]) : a = ⟨#[c]⟩ := by
  cases a with
  | mk cps =>
    have e : cps = #[c] := by
      apply Array.toList_inj.mp
      exact h
    rw [e]
theorem dInB_run {K : PySem.W.Frag} {W : Wd} (k : WOk W) {x y : V} {d f : D} {b : Bool} (hx : Den K W.G x d) (hy : Den K W.G y f) (h : dInB d f = some b) :
    (∃ p xs, y = .ref p ∧ (SqL K W.H p xs ∨ SqT K W.H p xs) ∧ flatV x = true ∧ xs.all flatV = true ∧ inV x xs = b) ∨ (∃ (c : Nat) (z : Str), x = .str ⟨#[c]⟩ ∧ y = .str z ∧ decide (c ∈ z.cps.toList) = b) := by
  have gen : (match f.items with
    | some ds => if d.scal = true ∧ ds.all D.scal = true then some ((ds.map D.toV).any fun v => eqV v d.toV) else none
    | none => none) = some b → (∃ p xs, y = .ref p ∧ (SqL K W.H p xs ∨ SqT K W.H p xs) ∧ flatV x = true ∧ xs.all flatV = true ∧ inV x xs = b) := by
    intro h
    split at h
    · rename_i ds hds
      split at h
      · rename_i hs
        cases h
        obtain ⟨a, xs, rfl, hs1, hd⟩ := den_items hy hds
        refine ⟨a, xs, rfl, ?_, ?_, ?_, ?_⟩
        · rcases hs1 with z | z
          · exact .inl (k.gh.seq z)
          · exact .inr (sqT_same k.gh z)
        · rw [den_scal hx hs.1]; exact flat_toV d
        · rw [denL_scal hd hs.2]; exact flat_all ds
        · rw [den_scal hx hs.1, denL_scal hd hs.2]; rfl
      · cases h
    · cases h
  unfold dInB at h
  split at h
  · split at h
    · rename_i c hc
      cases h; cases hx; cases hy
      rw [str_one hc]
      exact .inr ⟨_, _, rfl, rfl, rfl⟩
    · cases h
  · exact .inl (gen h)
theorem ros_in {K : PySem.W.Frag} : ROS K (rInU K) dIn := by
  intro W x y d e z Q k hx hy hf q
  simp only [dIn, Option.map_eq_some_iff] at hf
  obtain ⟨b, h1, h2⟩ := hf
  subst h2
  rcases dInB_run k hx hy h1 with ⟨p, xs, a1, a2, a3, a4, a5⟩ | ⟨c, w, a1, a2, a3⟩
  · exact .inl ⟨p, xs, a1, a2, a3, a4, by rw [a5]; exact q _ fun H => .bl _⟩
  · exact .inr ⟨c, w, a1, a2, by rw [a3]; exact q _ fun H => .bl _⟩
theorem ros_notIn {K : PySem.W.Frag} : ROS K (rNotInU K) dNotIn := by
  intro W x y d e z Q k hx hy hf q
  simp only [dNotIn, Option.map_eq_some_iff] at hf
  obtain ⟨b, h1, h2⟩ := hf
  subst h2
  rcases dInB_run k hx hy h1 with ⟨p, xs, a1, a2, a3, a4, a5⟩ | ⟨c, w, a1, a2, a3⟩
  · exact .inl ⟨p, xs, a1, a2, a3, a4, by rw [a5]; exact q _ fun H => .bl _⟩
  · exact .inr ⟨c, w, a1, a2, by rw [a3]; exact q _ fun H => .bl _⟩
def D.isNon : D → Bool
  | .non => true | _ => false
theorem den_non {K : PySem.W.Frag} {H : Hp} {v : V} {d : D} (h : Den K H v d) : decide (v = .non) = d.isNon := by
  cases h <;> simp [D.isNon]
def dIs : D → D → Option D
  | x, .non => some (.bl x.isNon)
  | _, _ => none
def dIsNot : D → D → Option D
  | x, .non => some (.bl (!x.isNon))
  | _, _ => none
def rIsNU : R2 := fun x y H Q => y = .non ∧ Q (.bl (decide (x = .non))) H
def rIsNotNU : R2 := fun x y H Q => y = .non ∧ Q (.bl (!decide (x = .non))) H
theorem op_isU {X : Cx} : OpR X (compareOp .Is) rIsNU := op_isN
theorem op_isNotU {X : Cx} : OpR X (compareOp .IsNot) rIsNotNU := op_notN
theorem ros_is {K : PySem.W.Frag} : ROS K rIsNU dIs := by
  intro W x y d e z Q k hx hy hf q
  unfold dIs at hf
  split at hf
  · cases hf; cases hy
    exact ⟨rfl, by rw [den_non hx]; exact q _ fun H => .bl _⟩
  · cases hf
theorem ros_isNot {K : PySem.W.Frag} : ROS K rIsNotNU dIsNot := by
  intro W x y d e z Q k hx hy hf q
  unfold dIsNot at hf
  split at hf
  · cases hf; cases hy
    exact ⟨rfl, by rw [den_non hx]; exact q _ fun H => .bl _⟩
  · cases hf

/-! ### tests -/
def gB (g : GE) : GB := fun c => match g c with
  | some (.bl b) => some b
  | _ => none
theorem gB_some {g : GE} {c : Env} {b : Bool} (h : gB g c = some b) : g c = some (.bl b) := by
  unfold gB at h
  split at h
  · cases h; assumption
  · cases h
section
variable {K : PySem.W.Frag} {b b1 b2 : Bool} {te ta tb tc : TE} {g ga gb gc : GE} {tt tu : TT} {p q : GB}
theorem vb_test (h : VT K W0 b te g) : VB K W0 (tTest te) (gB g) := by
  intro W σ c d Q k u s e q
  exact h W σ c _ _ k u s (gB_some e) fun W' v k' g' hd => by cases hd; exact ⟨_, rfl, q W' k' g'⟩
theorem vb_tB (h : VT K W0 b te g) : VB K W0 (tB te) (gB g) := by
  intro W σ c d Q k u s e q
  exact h W σ c _ _ k u s (gB_some e) fun W' v k' g' hd => by cases hd; exact ⟨_, rfl, q W' k' g'⟩
def D.tru : D → Option Bool
  | .non => some false | .bl b => some b | .int i => some (decide (i ≠ 0))
  | .str x => if x.length ≤ sizeLine then some (decide (x.length ≠ 0)) else none
  | .tup ds => some (!ds.isEmpty) | .lst ds => some (!ds.isEmpty) | .scr ds => some (!ds.isEmpty)
  | .ins _ _ _ => none
def gTru (g : GE) : GB := fun c => match g c with
  | some d => d.tru
  | none => none
theorem denL_empty {K : PySem.W.Frag} {H : Hp} {vs : List V} {ds : List D} (h : DenL K H vs ds) : vs.isEmpty = ds.isEmpty := by
  cases h <;> rfl
theorem tru_run {K : PySem.W.Frag} {H : Hp} {v : V} {d : D} {r : Bool} (h : Den K H v d) (e : d.tru = some r) : TruV K v H r := by
  cases h with
  | non => cases e; rfl
  | bl b => cases e; rfl
  | int i => cases e; show _ = (i != 0); simp [bne, Bool.beq_eq_decide_eq]
  | str x =>
    simp only [D.tru] at e
    split at e
    · rename_i hz
      cases e
      refine ⟨hz, ?_⟩
      by_cases h0 : x.length = 0 <;> simp [h0, bne]
    · cases e
  | tup h1 h2 => cases e; exact .inr (.inl ⟨_, h1, by rw [denL_empty h2]⟩)
  | lst h1 h2 => cases e; exact .inl ⟨_, SqL.of h1, by rw [denL_empty h2]⟩
  | scr h1 h2 => cases e; exact .inl ⟨_, h1, by rw [denL_empty h2]⟩
  | ins h1 h2 h3 => cases e
theorem vb_tru (h : VT K W0 b te g) : VB K W0 (fun σ H Q => te σ H fun x H' => ∃ k, TruV K x H' k ∧ Q k H') (gTru g) := by
  intro W σ c d Q k u s e q
  unfold gTru at e
  split at e
  · rename_i x hx
    exact h W σ c _ _ k u s hx fun W' v k' g' hd => ⟨d, tru_run (hd.up (k'.atH b)) e, q W' k' g'⟩
  · cases e
def gNot (p : GB) : GB := fun c => (p c).map fun b => !b
def gAnd (p q : GB) : GB := fun c => match p c with
  | some true => q c
  | some false => some false
  | none => none
def gOr (p q : GB) : GB := fun c => match p c with
  | some true => some true
  | some false => q c
  | none => none
theorem vb_not (h : VB K W0 tt p) : VB K W0 (tNot tt) (gNot p) := by
  intro W σ c d Q k u s e q
  simp only [gNot, Option.map_eq_some_iff] at e
  obtain ⟨r, e1, e2⟩ := e
  subst e2
  exact h W σ c r _ k u s e1 fun W' k' g' => q W' k' g'
theorem vb_and (h : VB K W0 tt p) (h' : VB K W0 tu q) : VB K W0 (tAnd tt tu) (gAnd p q) := by
  intro W σ c d Q k u s e qq
  unfold gAnd at e
  split at e
  · rename_i e1
    refine h W σ c _ _ k u s e1 fun W' k' g' => ?_
    rw [if_pos rfl]
    exact h' W' σ c _ _ k' (u.gr g') (s.gr g') e fun W2 k2 g2 => qq W2 k2 (g'.trans g2)
  · rename_i e1
    cases e
    refine h W σ c _ _ k u s e1 fun W' k' g' => ?_
    rw [if_neg Bool.false_ne_true]
    exact qq W' k' g'
  · cases e
theorem vb_or (h : VB K W0 tt p) (h' : VB K W0 tu q) : VB K W0 (tOr tt tu) (gOr p q) := by
  intro W σ c d Q k u s e qq
  unfold gOr at e
  split at e
  · rename_i e1
    cases e
    refine h W σ c _ _ k u s e1 fun W' k' g' => ?_
    rw [if_pos rfl]
    exact qq W' k' g'
  · rename_i e1
    refine h W σ c _ _ k u s e1 fun W' k' g' => ?_
    rw [if_neg Bool.false_ne_true]
    exact h' W' σ c _ _ k' (u.gr g') (s.gr g') e fun W2 k2 g2 => qq W2 k2 (g'.trans g2)
  · cases e
/-- .. as values -/
def gBl (p : GB) : GE := fun c => (p c).map .bl
theorem vt_andV (h : VT K W0 b1 ta ga) (h' : VT K W0 b2 tb gb) : VT K W0 b (tAndV ta tb) (gBl (gAnd (gB ga) (gB gb))) := by
  intro W σ c d Q k u s e qq
  simp only [gBl, Option.map_eq_some_iff] at e
  obtain ⟨r, e, e2⟩ := e
  subst e2
  unfold gAnd at e
  split at e
  · rename_i e1
    refine h W σ c _ _ k u s (gB_some e1) fun W' v k' g' hd => ?_
    cases hd
    refine ⟨_, rfl, ?_⟩
    rw [if_pos rfl]
    exact h' W' σ c _ _ k' (u.gr g') (s.gr g') (gB_some e) fun W2 v k2 g2 hd => by cases hd; exact qq W2 _ k2 (g'.trans g2) (.bl _)
  · rename_i e1
    cases e
    refine h W σ c _ _ k u s (gB_some e1) fun W' v k' g' hd => ?_
    cases hd
    refine ⟨_, rfl, ?_⟩
    rw [if_neg Bool.false_ne_true]
    exact qq W' _ k' g' (.bl _)
  · cases e
theorem vt_orV (h : VT K W0 b1 ta ga) (h' : VT K W0 b2 tb gb) : VT K W0 b (tOrV ta tb) (gBl (gOr (gB ga) (gB gb))) := by
  intro W σ c d Q k u s e qq
  simp only [gBl, Option.map_eq_some_iff] at e
  obtain ⟨r, e, e2⟩ := e
  subst e2
  unfold gOr at e
  split at e
  · rename_i e1
    cases e
    refine h W σ c _ _ k u s (gB_some e1) fun W' v k' g' hd => ?_
    cases hd
    refine ⟨_, rfl, ?_⟩
    rw [if_pos rfl]
    exact qq W' _ k' g' (.bl _)
  · rename_i e1
    refine h W σ c _ _ k u s (gB_some e1) fun W' v k' g' hd => ?_
    cases hd
    refine ⟨_, rfl, ?_⟩
    rw [if_neg Bool.false_ne_true]
    exact h' W' σ c _ _ k' (u.gr g') (s.gr g') (gB_some e) fun W2 v k2 g2 hd => by cases hd; exact qq W2 _ k2 (g'.trans g2) (.bl _)
  · cases e
theorem vt_notV (h : VT K W0 b1 ta ga) : VT K W0 b (tNotV ta) (gBl (gNot (gB ga))) := by
  intro W σ c d Q k u s e qq
  simp only [gBl, gNot, Option.map_eq_some_iff] at e
  obtain ⟨r, ⟨r', e, e2⟩, e3⟩ := e
  subst e2 e3
  exact h W σ c _ _ k u s (gB_some e) fun W' v k' g' hd => by cases hd; exact ⟨_, rfl, qq W' _ k' g' (.bl _)⟩
/-- a chain x < y < z -/
def gChain (f f' : D → D → Option D) (ga gb gc : GE) : GE := fun c => match ga c with
  | some x => match gb c with
    | some y => match f x y with
      | some (.bl true) => match gc c with
        | some z => f' y z
        | none => none
      | some (.bl false) => some (.bl false)
      | _ => none
    | none => none
  | none => none
theorem vt_chain {b3 : Bool} {r r' : R2} {f f' : D → D → Option D} (hr : ROS K r f) (hr' : ROS K r' f') (ha : VT K W0 b1 ta ga) (hb : VT K W0 b2 tb gb) (hc : VT K W0 b3 tc gc) : VT K W0 b (tChain r r' ta tb tc) (gChain f f' ga gb gc) := by
  intro W σ c d Q k u s e q
  unfold gChain at e
  split at e
  · rename_i x hx
    split at e
    · rename_i y hy
      refine ha W σ c x _ k u s hx fun W1 v1 k1 g1 d1 => ?_
      refine hb W1 σ c y _ k1 (u.gr g1) (s.gr g1) hy fun W2 v2 k2 g2 d2 => ?_
      have c1 := d1.up ((g2.at b1).trans (k2.atG b1))
      have c2 := d2.up (k2.atG b2)
      split at e
      · rename_i hf
        refine hr W2 v1 v2 x y _ _ k2 c1 c2 hf fun v hv => ?_
        cases (hv W2.H)
        refine ⟨true, rfl, ?_⟩
        rw [if_pos rfl]
        split at e
        · rename_i z hz
          refine hc W2 σ c z _ k2 ((u.gr g1).gr g2) ((s.gr g1).gr g2) hz fun W3 v3 k3 g3 d3 => ?_
          exact hr' W3 v2 v3 y z d Q k3 (c2.up g3.g) (d3.up (k3.atG _)) e fun v hv => q W3 v k3 (g1.trans (g2.trans g3)) (hv _)
        · cases e
      · rename_i hf
        cases e
        refine hr W2 v1 v2 x y _ _ k2 c1 c2 hf fun v hv => ?_
        cases (hv W2.H)
        refine ⟨false, rfl, ?_⟩
        rw [if_neg Bool.false_ne_true]
        exact q W2 _ k2 (g1.trans g2) (.bl _)
      · cases e
    · cases e
  · cases e
/-- x if t else y -/
def gIfE (p : GB) (ga gb : GE) : GE := fun c => match p c with
  | some true => ga c
  | some false => gb c
  | none => none
theorem vt_ifE (h : VB K W0 tt p) (ha : VT K W0 b ta ga) (hb : VT K W0 b tb gb) : VT K W0 b (tIf tt ta tb) (gIfE p ga gb) := by
  intro W σ c d Q k u s e q
  unfold gIfE at e
  split at e
  · rename_i e1
    refine h W σ c _ _ k u s e1 fun W' k' g' => ?_
    rw [if_pos rfl]
    exact ha W' σ c _ _ k' (u.gr g') (s.gr g') e fun W2 v k2 g2 hd => q W2 v k2 (g'.trans g2) hd
  · rename_i e1
    refine h W σ c _ _ k u s e1 fun W' k' g' => ?_
    rw [if_neg Bool.false_ne_true]
    exact hb W' σ c _ _ k' (u.gr g') (s.gr g') e fun W2 v k2 g2 hd => q W2 v k2 (g'.trans g2) hd
  · cases e
def gNeg (ga : GE) : GE := fun c => (ga c).bind dNeg
theorem vt_neg (h : VT K W0 b1 ta ga) : VT K W0 b (tUn (rU fun i => .int (-i)) ta) (gNeg ga) := by
  intro W σ c d Q k u s e q
  unfold gNeg at e
  simp only [Option.bind_eq_some_iff] at e
  obtain ⟨x, e1, e2⟩ := e
  refine h W σ c _ _ k u s e1 fun W' v k' g' hd => ?_
  cases hd <;> simp [dNeg] at e2
  subst e2
  exact ⟨_, rfl, q W' _ k' g' (.int _)⟩

/-! ### arguments, displays -/
def gNil : GA := fun _ => some []
def gCons (g : GE) (gs : GA) : GA := fun c => match g c with
  | some d => match gs c with
    | some ds => some (d :: ds)
    | none => none
  | none => none
theorem gCons_some {g : GE} {gs : GA} {c : Env} {ds : List D} (h : gCons g gs c = some ds) : ∃ d r, g c = some d ∧ gs c = some r ∧ ds = d :: r := by
  unfold gCons at h
  split at h
  · rename_i x hx
    split at h
    · rename_i y hy
      cases h
      exact ⟨x, y, hx, hy, rfl⟩
    · cases h
  · cases h
theorem va_nil : VArg K W0 b tNil gNil := by
  intro W σ c ds Q k u s e q
  cases e
  exact q W [] k (Gr.refl W) .nil
theorem va_cons {ts : TA} {gs : GA} (h : VT K W0 b te g) (hs : VArg K W0 b ts gs) : VArg K W0 b (tCons te ts) (gCons g gs) := by
  intro W σ c ds Q k u s e q
  obtain ⟨d, r, e1, e2, rfl⟩ := gCons_some e
  refine h W σ c d _ k u s e1 fun W1 v k1 g1 d1 => ?_
  refine hs W1 σ c r _ k1 (u.gr g1) (s.gr g1) e2 fun W2 vs k2 g2 d2 => ?_
  exact q W2 (v :: vs) k2 (g1.trans g2) (.cons (d1.up (g2.at b)) d2)
def gTup (gs : GA) : GE := fun c => match gs c with
  | some ds => if ds.length ≤ sizeLine then some (.tup ds) else none
  | none => none
theorem vt_tup {ts : TA} {gs : GA} (hs : VArg K W0 b ts gs) : VT K W0 b (tTup ts) (gTup gs) := by
  intro W σ c d Q k u s e q
  unfold gTup at e
  split at e
  · rename_i ds hds
    split at e
    · rename_i hz
      cases e
      refine hs W σ c ds _ k u s hds fun W1 vs k1 g1 d1 => ⟨by rw [d1.length]; exact hz, fun p hp => ?_⟩
      exact q (W1.new b p _) _ (new_ok k1 hp) (g1.trans (new_gr k1 hp)) (.tup (SqT.of new_self) (new_denL k1 hp d1))
    · cases e
  · cases e
def gLen (gs : GA) : GA := fun c => match gs c with
  | some ds => if ds.length ≤ sizeLine then some ds else none
  | none => none
theorem vn_lst {ts : TA} {gs : GA} (hs : VArg K W0 true ts gs) : VN K W0 (tLst ts) (gLen gs) := by
  intro W σ c d Q k u s e q
  unfold gLen at e
  split at e
  · rename_i ds hds
    split at e
    · rename_i hz
      cases e
      refine hs W σ c _ _ k u s hds fun W1 vs k1 g1 d1 => ⟨by rw [d1.length]; exact hz, fun p hp => ?_⟩
      exact q W1 p vs k1 g1 hp d1
    · cases e
  · cases e

/-! ### subscripts -/
def dIx : D → D → Option D
  | .str x, .int i => if x.length ≤ sizeLine then (atI x.cps.toList i).map fun c => .str ⟨#[c]⟩ else none
  | x, .int i => match x.items with
    | some ds => atI ds i
    | none => none
  | _, _ => none
theorem denL_atI {H : Hp} {ds : List D} {vs : List V} {i : Int} {d : D} (h : DenL K H vs ds) (e : atI ds i = some d) : ∃ v, atI vs i = some v ∧ Den K H v d := by
  unfold atI at e ⊢
  rw [h.length]
  simp only [Option.bind_eq_some_iff] at e ⊢
  obtain ⟨j, e1, e2⟩ := e
  obtain ⟨v, e3, e4⟩ := h.get e2
  exact ⟨v, ⟨j, e1, e3⟩, e4⟩
theorem dIx_run {H H' : Hp} (e : Same H H') {x y : V} {d f z : D} (hx : Den K H x d) (hy : Den K H y f) (h : dIx d f = some z) {Q : VK} (q : ∀ v, Den K H v z → Q v H') : rIx K x y H' Q := by
  unfold dIx at h
  split at h
  · split at h
    · rename_i hz
      cases hx; cases hy
      simp only [Option.map_eq_some_iff] at h
      obtain ⟨c, e1, e2⟩ := h
      subst e2
      exact .inr (.inr ⟨_, _, c, rfl, rfl, hz, e1, q _ (.str _)⟩)
    · cases h
  · split at h
    · rename_i ds hds
      cases hy
      obtain ⟨a, xs, rfl, hs, hd⟩ := den_items hx hds
      obtain ⟨v, e3, e4⟩ := denL_atI hd h
      rcases hs with hs | hs
      · exact .inl ⟨a, xs, _, v, rfl, rfl, e.seq hs, e3, q v e4⟩
      · exact .inr (.inl ⟨a, xs, _, v, rfl, rfl, sqT_same e hs, e3, q v e4⟩)
    · cases h
  · cases h
theorem ro_ix : RO K (rIx K) dIx := fun b W x y d e z Q k hx hy hf q => dIx_run (k.atH b) hx hy hf fun v hv => q W v k (Gr.refl W) hv
/-- x[i], x a name: the items are settled -/
theorem vt_ixv {i : Nat} {b2 : Bool} (hb : VT K W0 b2 tb gb) : VT K W0 b (tOp (rIx K) (tVar i) tb) (g2 dIx (gLook i) gb) := by
  intro W σ c d Q k u s e q
  obtain ⟨x, y, ex, ey, ef⟩ := g2_some e
  unfold gLook at ex
  split at ex
  · rename_i d' hc
    cases ex
    obtain ⟨z, hx, v, rfl, hd⟩ := s.at hc
    refine ⟨v, hx, hb W σ c y _ k u s ey fun W2 v2 k2 g2 d2 => ?_⟩
    cases y with
    | int j => cases d2; exact dIx_run k2.fh (hd.up g2.f) (.int j) ef fun v hv => q W2 v k2 g2 (hv.up (by cases b; exact k2.fg; exact Same.refl _))
    | _ => simp [dIx] at ef
  · rename_i ds hc
    cases ex
    obtain ⟨z, hx, l, vs, rfl, h1, h2, h3, h4, h5⟩ := s.at hc
    refine ⟨_, hx, hb W σ c y _ k u s ey fun W2 v2 k2 g2 d2 => ?_⟩
    cases y with
    | int j =>
      cases d2
      have e3 : atI ds j = some d := ef
      obtain ⟨v, e5, e6⟩ := denL_atI (h5.up g2.f) e3
      exact .inl ⟨l, vs, j, v, rfl, rfl, SqL.of (g2.h _ _ h1), e5, q W2 v k2 g2 (e6.up (by cases b; exact k2.fg; exact Same.refl _))⟩
    | _ => simp [dIx] at ef
  · cases ex

/-! slices -/
abbrev GO := Env → Option (Option Int)
def VO (K : PySem.W.Frag) (W0 : Wd) (to : TO) (g : GO) : Prop :=
  ∀ (W : Wd) (σ : L2.St) (c : Env) (d : Option Int) (Q : Option Int → Hp → Prop), WOk W → Up W0 W → SD K W0 W σ c → g c = some d → (∀ W', WOk W' → Gr W W' → Q d W'.H) → to σ W.H Q
def gPart (g : GE) : GO := fun c => match g c with
  | some (.int i) => some (some i)
  | _ => none
theorem vo_none : VO K W0 tNoPart (fun _ => some none) := by
  intro W σ c d Q k u s e q
  cases e
  exact q W k (Gr.refl W)
theorem vo_some (h : VT K W0 b te g) : VO K W0 (tPart te) (gPart g) := by
  intro W σ c d Q k u s e q
  unfold gPart at e
  split at e
  · rename_i i hi
    cases e
    exact h W σ c _ _ k u s hi fun W' v k' g' hd => by cases hd; exact ⟨_, rfl, q W' k' g'⟩
  · cases e
def cutD (ds : List D) (lo hi : Option Int) : List D := (ds.drop (HT.sIx ds.length 0 lo)).take (HT.sIx ds.length ds.length hi - HT.sIx ds.length 0 lo)
theorem denL_cut {H : Hp} {ds : List D} {vs : List V} (h : DenL K H vs ds) (lo hi : Option Int) : DenL K H (cutV vs lo hi) (cutD ds lo hi) := by
  unfold cutV cutD
  rw [h.length]
  exact (h.drop _).take _
def dCut (x : D) (lo hi : Option Int) : Option D := match x with
  | .str z => if z.length ≤ sizeLine then some (.str (cutS z lo hi)) else none
  | .tup ds => some (.tup (cutD ds lo hi))
  | .lst ds => some (.lst (cutD ds lo hi))
  | .scr ds => some (.lst (cutD ds lo hi))
  | _ => none
def rCutU (K : PySem.W.Frag) : V → Option Int → Option Int → Hp → VK → Prop := fun x lo hi H Q => rSlS x lo hi H Q ∨ rSlA K x lo hi H Q ∨ rSlL K x lo hi H Q
theorem sl_U {X : Cx} : SlR X (rCutU X.K) := sl_str.or (sl_tupA.or sl_list)
def gCut (g : GE) (gl gh : GO) : GE := fun c => match g c with
  | some x => match gl c with
    | some lo => match gh c with
      | some hi => dCut x lo hi
      | none => none
    | none => none
  | none => none
theorem vt_cut {tl th : TO} {gl gh : GO} (he : VT K W0 b te g) (hl : VO K W0 tl gl) (hh : VO K W0 th gh) : VT K W0 b (tSl (rCutU K) te tl th) (gCut g gl gh) := by
  intro W σ c d Q k u s e q
  unfold gCut at e
  split at e
  · rename_i x hx
    split at e
    · rename_i lo hlo
      split at e
      · rename_i hi hhi
        refine he W σ c x _ k u s hx fun W1 v k1 g1 d1 => ?_
        refine hl W1 σ c lo _ k1 (u.gr g1) (s.gr g1) hlo fun W2 k2 g2 => ?_
        refine hh W2 σ c hi _ k2 ((u.gr g1).gr g2) ((s.gr g1).gr g2) hhi fun W3 k3 g3 => ?_
        have d3 := d1.up ((g2.trans g3).at b)
        have gg := g1.trans (g2.trans g3)
        unfold dCut at e
        split at e
        · split at e
          · rename_i hz
            cases e; cases d3
            exact .inl ⟨_, rfl, hz, q W3 _ k3 gg (.str _)⟩
          · cases e
        · cases e
          cases d3 with
          | tup h1 h2 =>
            refine .inr (.inl ⟨_, _, rfl, sqT_same (k3.atH b) h1, fun hw => ?_, fun hw p hp => ?_⟩)
            · refine q W3 _ k3 gg (.tup h1 ?_)
              unfold cutD
              rw [h2.length] at hw
              rw [hw.1, hw.2, Nat.sub_zero, List.drop_zero, List.take_length]
              exact h2
            · exact q (W3.new b p _) _ (new_ok k3 hp) (gg.trans (new_gr k3 hp)) (.tup (SqT.of new_self) (new_denL k3 hp (denL_cut h2 _ _)))
        · cases e
          cases d3 with
          | lst h1 h2 =>
            refine .inr (.inr ⟨_, _, rfl, SqL.of (k3.atH b _ _ h1), fun p hp => ?_⟩)
            exact q (W3.new b p _) _ (new_ok k3 hp) (gg.trans (new_gr k3 hp)) (.lst new_self (new_denL k3 hp (denL_cut h2 _ _)))
        · cases e
          cases d3 with
          | scr h1 h2 =>
            refine .inr (.inr ⟨_, _, rfl, (k3.atH b).seq h1, fun p hp => ?_⟩)
            exact q (W3.new b p _) _ (new_ok k3 hp) (gg.trans (new_gr k3 hp)) (.lst new_self (new_denL k3 hp (denL_cut h2 _ _)))
        · cases e
      · cases e
    · cases e
  · cases e

/-! ### calls of built-ins, by values -/
/-- the call rule r does f; its value as settled as its arguments -/
def RC (K : PySem.W.Frag) (r : List V → Hp → VK → Prop) (f : List D → Option D) : Prop :=
  ∀ (b : Bool) (W : Wd) (xs : List V) (ds : List D) (z : D) (Q : VK), WOk W → DenL K (W.at b) xs ds → f ds = some z → (∀ W' v, WOk W' → Gr W W' → Den K (W'.at b) v z → Q v W'.H) → r xs W.H Q
def RCS (K : PySem.W.Frag) (r : List V → Hp → VK → Prop) (f : List D → Option D) : Prop :=
  ∀ (W : Wd) (xs : List V) (ds : List D) (z : D) (Q : VK), WOk W → DenL K W.G xs ds → f ds = some z → (∀ v, (∀ H, Den K H v z) → Q v W.H) → r xs W.H Q
def gCall (f : List D → Option D) (gs : GA) : GE := fun c => match gs c with
  | some ds => f ds
  | none => none
theorem gCall_some {f : List D → Option D} {gs : GA} {c : Env} {d : D} (h : gCall f gs c = some d) : ∃ ds, gs c = some ds ∧ f ds = some d := by
  unfold gCall at h
  split at h
  · exact ⟨_, by assumption, h⟩
  · cases h
theorem vt_cb {r : List V → Hp → VK → Prop} {f : List D → Option D} {ts : TA} {gs : GA} (hr : RC K r f) (hs : VArg K W0 b ts gs) : VT K W0 b (tCB r ts) (gCall f gs) := by
  intro W σ c d Q k u s e q
  obtain ⟨ds, e1, e2⟩ := gCall_some e
  refine hs W σ c ds _ k u s e1 fun W1 vs k1 g1 d1 => ?_
  exact hr b W1 vs ds d Q k1 d1 e2 fun W2 v k2 g2 hd => q W2 v k2 (g1.trans g2) hd
theorem vt_cbS {r : List V → Hp → VK → Prop} {f : List D → Option D} {ts : TA} {gs : GA} (hr : RCS K r f) (hs : VArg K W0 b1 ts gs) : VT K W0 b (tCB r ts) (gCall f gs) := by
  intro W σ c d Q k u s e q
  obtain ⟨ds, e1, e2⟩ := gCall_some e
  refine hs W σ c ds _ k u s e1 fun W1 vs k1 g1 d1 => ?_
  exact hr W1 vs ds d Q k1 (d1.up (k1.atG b1)) e2 fun v hv => q W1 v k1 g1 (hv _)
def fLen : List D → Option D
  | [.str x] => if x.length ≤ sizeLine then some (.int x.length) else none
  | [d] => d.items.map fun ds => .int ds.length
  | _ => none
def rLenU (K : PySem.W.Frag) : List V → Hp → VK → Prop := fun xs H Q => ∃ x n, xs = [x] ∧ LenV K x H n ∧ Q (.int n) H
theorem call_lenU {X : Cx} : CallR X (.builtin "len") (rLenU X.K) := call_len
theorem rcs_len : RCS K (rLenU K) fLen := by
  intro W xs ds z Q k hd hf q
  unfold fLen at hf
  split at hf
  · split at hf
    · rename_i hz
      cases hf
      cases hd with
      | cons h1 h2 => cases h1; cases h2; exact ⟨_, _, rfl, ⟨hz, rfl⟩, q _ fun H => .int _⟩
    · cases hf
  · simp only [Option.map_eq_some_iff] at hf
    obtain ⟨es, e1, e2⟩ := hf
    subst e2
    cases hd with
    | cons h1 h2 =>
      cases h2
      obtain ⟨a, ys, rfl, hs, hd⟩ := den_items h1 e1
      refine ⟨_, es.length, rfl, ?_, q _ fun H => .int _⟩
      rcases hs with hs | hs
      · exact .inl ⟨ys, k.gh.seq hs, hd.length.symm⟩
      · exact .inr ⟨ys, sqT_same k.gh hs, hd.length.symm⟩
  · cases hf
def fInt : List D → Option D
  | [.int i] => some (.int i)
  | [.bl k] => some (.int (if k then 1 else 0))
  | _ => none
def rIntU : List V → Hp → VK → Prop := fun xs H Q => (∃ i, xs = [.int i] ∧ Q (.int i) H) ∨ ∃ k, xs = [.bl k] ∧ Q (.int (if k then 1 else 0)) H
theorem call_intU {X : Cx} : CallR X (.type "int") rIntU := call_int1
theorem rcs_int : RCS K rIntU fInt := by
  intro W xs ds z Q k hd hf q
  unfold fInt at hf
  split at hf
  · cases hf
    cases hd with
    | cons h1 h2 => cases h1; cases h2; exact .inl ⟨_, rfl, q _ fun H => .int _⟩
  · cases hf
    cases hd with
    | cons h1 h2 => cases h1; cases h2; exact .inr ⟨_, rfl, q _ fun H => .int _⟩
  · cases hf
def fMax : List D → Option D
  | [.int i, .int j] => some (.int (if j > i then j else i))
  | _ => none
def fMin : List D → Option D
  | [.int i, .int j] => some (.int (if j < i then j else i))
  | _ => none
def rMaxU : List V → Hp → VK → Prop := fun xs H Q => ∃ i j, xs = [.int i, .int j] ∧ Q (.int (if j > i then j else i)) H
def rMinU : List V → Hp → VK → Prop := fun xs H Q => ∃ i j, xs = [.int i, .int j] ∧ Q (.int (if j < i then j else i)) H
theorem call_maxU {X : Cx} (hc : X.calm = true) : CallR X (.builtin "max") rMaxU := call_max2 hc
theorem call_minU {X : Cx} (hc : X.calm = true) : CallR X (.builtin "min") rMinU := call_min2 hc
theorem rcs_max : RCS K rMaxU fMax := by
  intro W xs ds z Q k hd hf q
  unfold fMax at hf
  split at hf
  · cases hf
    cases hd with
    | cons h1 h2 =>
      cases h2 with
      | cons h2 h3 => cases h1; cases h2; cases h3; exact ⟨_, _, rfl, q _ fun H => .int _⟩
  · cases hf
theorem rcs_min : RCS K rMinU fMin := by
  intro W xs ds z Q k hd hf q
  unfold fMin at hf
  split at hf
  · cases hf
    cases hd with
    | cons h1 h2 =>
      cases h2 with
      | cons h2 h3 => cases h1; cases h2; cases h3; exact ⟨_, _, rfl, q _ fun H => .int _⟩
  · cases hf
/-- tuple(x) -/
def fTuple : List D → Option D
  | [d] => d.items.map .tup
  | _ => none
def rTupleU (K : PySem.W.Frag) : List V → Hp → VK → Prop := fun xs H Q => ∃ p ys, xs = [.ref p] ∧ ((SqL K H p ys ∧ ∀ l, H l = none → Q (.ref l) (upd H l (.tup ys))) ∨ (SqT K H p ys ∧ Q (.ref p) H))
theorem call_tupleU {X : Cx} : CallR X (.type "tuple") (rTupleU X.K) := call_tuple_of
theorem rc_tuple : RC K (rTupleU K) fTuple := by
  intro b W xs ds z Q k hd hf q
  unfold fTuple at hf
  split at hf
  · simp only [Option.map_eq_some_iff] at hf
    obtain ⟨es, e1, e2⟩ := hf
    subst e2
    cases hd with
    | cons h1 h2 =>
      cases h2
      obtain ⟨a, ys, rfl, hs, hd⟩ := den_items h1 e1
      refine ⟨a, ys, rfl, ?_⟩
      rcases hs with hs | hs
      · exact .inl ⟨(k.atH b).seq hs, fun p hp => q (W.new b p _) _ (new_ok k hp) (new_gr k hp) (.tup (SqT.of new_self) (new_denL k hp hd))⟩
      · exact .inr ⟨sqT_same (k.atH b) hs, q W _ k (Gr.refl W) (.tup hs hd)⟩
  · cases hf
/-- list(x), a list or a tuple -/
def rListU (K : PySem.W.Frag) : List V → Hp → VK → Prop := fun xs H Q => ∃ p ys, xs = [.ref p] ∧ (SqL K H p ys ∨ SqT K H p ys) ∧ ∀ l, H l = none → Q (.ref l) (upd H l (.lst ys))
theorem call_listU {X : Cx} : CallR X (.type "list") (rListU X.K) := call_list_of
def gItems (g : GE) : GA := fun c => match g c with
  | some d => d.items
  | none => none
theorem vn_list (h : VT K W0 true te g) : VN K W0 (tCB (rListU K) (tCons te tNil)) (gItems g) := by
  intro W σ c ds Q k u s e q
  unfold gItems at e
  split at e
  · rename_i d hd
    refine h W σ c d _ k u s hd fun W1 v k1 g1 d1 => ?_
    obtain ⟨a, ys, rfl, hs, hd⟩ := den_items d1 e
    refine ⟨a, ys, rfl, ?_, fun l hl => q W1 l ys k1 g1 hl hd⟩
    rcases hs with hs | hs
    · exact .inl (k1.fh.seq hs)
    · exact .inr (sqT_same k1.fh hs)
  · cases e
/-! isinstance of a built-in type -/
def D.ty : D → Option String
  | .non => some "NoneType" | .bl _ => some "bool" | .int _ => some "int" | .str _ => some "str" | .tup _ => some "tuple" | .lst _ => some "list" | .scr _ => some "list" | .ins _ _ _ => none
theorem ty_run {H : Hp} {v : V} {d : D} {n : String} (h : Den K H v d) (e : d.ty = some n) : TyX K H v (.type n) := by
  cases h with
  | non => cases e; exact .base .non
  | bl b => cases e; exact .base (.bl b)
  | int i => cases e; exact .base (.int i)
  | str x => cases e; exact .base (.str x)
  | tup h1 h2 =>
    cases e
    rcases h1 with (h1 | ⟨o, h1⟩) | ⟨o, its, n, h1, h2, _⟩
    · exact .base (.tup h1)
    · exact .fTuple h1
    · exact .kTuple h1 h2
  | lst h1 h2 => cases e; exact .base (.lst h1)
  | scr h1 h2 =>
    cases e
    rcases h1 with (h1 | ⟨o, h1⟩) | ⟨o, its, n, h1, h2, _⟩
    · exact .base (.lst h1)
    · exact .base (.frz h1)
    · exact .kList h1 h2
  | ins h1 h2 h3 => cases e
def dIsi (n : String) (d : D) : Option D := match d.ty with
  | some t => (kitB t n).map .bl
  | none => none
def gIsi (n : String) (g : GE) : GE := fun c => (g c).bind (dIsi n)
theorem vt_isi {n : String} (h : VT K W0 b1 te g) : VT K W0 b (tCB (rIsi K) (tCons te (tCons (tC (.ty n)) tNil))) (gIsi n g) := by
  intro W σ c d Q k u s e q
  unfold gIsi at e
  simp only [Option.bind_eq_some_iff] at e
  obtain ⟨x, e1, e2⟩ := e
  unfold dIsi at e2
  split at e2
  · rename_i t ht
    simp only [Option.map_eq_some_iff] at e2
    obtain ⟨r, e3, e4⟩ := e2
    subst e4
    refine h W σ c x _ k u s e1 fun W1 v k1 g1 d1 => ?_
    exact ⟨v, .ty n, .type t, .type n, r, rfl, .ty n, ty_run (d1.up (k1.atH b1)) ht, kit_ty e3, q W1 _ k1 g1 (.bl r)⟩
  · cases e2
theorem kb1 : kitB "int" "int" = some true := by decide +kernel
theorem kb2 : kitB "bool" "int" = some true := by decide +kernel
theorem kb3 : kitB "int" "bool" = some false := by decide +kernel
theorem kb4 : kitB "bool" "bool" = some true := by decide +kernel
theorem kb5 : kitB "str" "str" = some true := by decide +kernel
theorem kb6 : kitB "int" "str" = some false := by decide +kernel
theorem kb7 : kitB "str" "int" = some false := by decide +kernel
theorem kb8 : kitB "tuple" "tuple" = some true := by decide +kernel
theorem kb9 : kitB "list" "tuple" = some false := by decide +kernel
theorem kb10 : kitB "list" "list" = some true := by decide +kernel
theorem kb11 : kitB "tuple" "list" = some false := by decide +kernel
theorem kb12 : kitB "str" "list" = some false := by decide +kernel
theorem kb13 : kitB "str" "tuple" = some false := by decide +kernel
theorem kb14 : kitB "int" "list" = some false := by decide +kernel
theorem kb15 : kitB "int" "tuple" = some false := by decide +kernel
end
end VL
end

section
/-! VC: statements, loops, comprehensions, defs by data. -/
namespace VL
open PySem PySem.Spec PyProof.Rows L2

inductive Out where
  | nx (c : Env) | ret (d : D) | bk (c : Env) | ct (c : Env)
  | ex (C : Addr) (ns : List Str) (ds : List D)
abbrev GS := Env → Option Out
def NxP (K : PySem.W.Frag) (W0 : Wd) (Fs : Hp) (P : L2.St → Hp → Prop) (c : Env) : Prop :=
  ∀ W σ, WOk W → Up W0 W → Same Fs W.F → SD K W0 W σ c → P σ W.H
def Post (K : PySem.W.Frag) (E : XK) (W0 : Wd) (Fs : Hp) (D : Ends) : Option Out → Prop
  | none => False
  | some (.nx c) => NxP K W0 Fs D.nx c
  | some (.bk c) => NxP K W0 Fs D.bk c
  | some (.ct c) => NxP K W0 Fs D.ct c
  | some (.ret d) => ∀ W v, WOk W → Up W0 W → Same Fs W.F → Den K W.F v d → D.rt v W.H
  | some (.ex C ns ds) => ∀ W dx fs, WOk W → Up W0 W → Same Fs W.F → W.H dx = some (.xd fs) → W0.H dx = none → fs.map (·.1) = ns → DenL K W.F (fs.map (·.2)) ds → E (.ref C) (some dx) W.H
def VS (K : PySem.W.Frag) (W0 : Wd) (E : XK) (ts : TS) (g : GS) : Prop :=
  ∀ (W : Wd) (σ : L2.St) (c : Env) (D : Ends), WOk W → Up W0 W → SD K W0 W σ c → Post K E W0 W.F D (g c) → ts D σ W.H
section
variable {K : PySem.W.Frag} {E : XK}
theorem NxP.mono {W0 : Wd} {F F' : Hp} {P : L2.St → Hp → Prop} {c : Env} (h : NxP K W0 F P c) (e : Same F F') : NxP K W0 F' P c :=
  fun W σ k u f s => h W σ k u (e.trans f) s
theorem Post.mono {W0 : Wd} {F F' : Hp} {D : Ends} (e : Same F F') : ∀ {o : Option Out}, Post K E W0 F D o → Post K E W0 F' D o
  | none, h => h
  | some (.nx c), h => NxP.mono h e
  | some (.bk c), h => NxP.mono h e
  | some (.ct c), h => NxP.mono h e
  | some (.ret d), h => fun W v k u f => h W v k u (e.trans f)
  | some (.ex C ns ds), h => fun W dx fs k u f => h W dx fs k u (e.trans f)

/-! blocks -/
def gNext : GS := fun c => some (.nx c)
def gNever : GS := fun _ => none
def gSeq (g1 g2 : GS) : GS := fun c => match g1 c with
  | some (.nx c') => g2 c'
  | r => r
theorem vs_next : VS K W0 E tNext gNext := fun W σ c D k u s h => h W σ k u (Same.refl _) s
theorem vs_never : VS K W0 E tNever gNever := fun W σ c D k u s h => h
theorem vs_seq {t1 t2 : TS} {g1 g2 : GS} (h1 : VS K W0 E t1 g1) (h2 : VS K W0 E t2 g2) : VS K W0 E (tSeq t1 t2) (gSeq g1 g2) := by
  intro W σ c D k u s h
  refine h1 W σ c { D with nx := t2 D } k u s ?_
  unfold gSeq at h
  cases e : g1 c with
  | none => rw [e] at h; exact h
  | some o =>
    rw [e] at h
    cases o with
    | nx c' => exact fun W' σ' k' u' f' s' => h2 W' σ' c' D k' u' s' (h.mono f')
    | ret d => exact h
    | bk c => exact h
    | ct c => exact h
    | ex C ns ds => exact h
def gBreak : GS := fun c => some (.bk c)
def gCont : GS := fun c => some (.ct c)
theorem vs_break : VS K W0 E tBreak gBreak := fun W σ c D k u s h => h W σ k u (Same.refl _) s
theorem vs_cont : VS K W0 E tCont gCont := fun W σ c D k u s h => h W σ k u (Same.refl _) s
def gIf (p : GB) (g1 g2 : GS) : GS := fun c => match p c with
  | some true => g1 c
  | some false => g2 c
  | none => none
theorem vs_if {tt : TT} {p : GB} {t1 t2 : TS} {g1 g2 : GS} (h : VB K W0 tt p) (h1 : VS K W0 E t1 g1) (h2 : VS K W0 E t2 g2) : VS K W0 E (tIfS tt t1 t2) (gIf p g1 g2) := by
  intro W σ c D k u s q
  unfold gIf at q
  cases e : p c with
  | none => rw [e] at q; exact q.elim
  | some b =>
    rw [e] at q
    refine h W σ c b _ k u s e fun W' k' g' => ?_
    cases b with
    | true => rw [if_pos rfl]; exact h1 W' σ c D k' (u.gr g') (s.gr g') (q.mono g'.f)
    | false => rw [if_neg Bool.false_ne_true]; exact h2 W' σ c D k' (u.gr g') (s.gr g') (q.mono g'.f)

/-! lists of one's own are settled -/
def frzCell : Option Cell → Option Cell
  | some (.own ds) => some (.fz (.lst ds))
  | x => x
theorem sd_frz {W0 W : Wd} {σ : L2.St} {c c' : Env} (k : WOk W) (u : Up W0 W) (s : SD K W0 W σ c) (hl : c'.length = c.length) (hc : ∀ (i : Nat) y, c[i]? = some y → c'[i]? = some y ∨ c'[i]? = some (frzCell y)) :
    ∃ W', W'.H = W.H ∧ WOk W' ∧ Up W0 W' ∧ Same W.F W'.F ∧ SD K W0 W' σ c' := by
  classical
  let own : Addr → Prop := fun a => ∃ (i : Nat) (ds : List D), c[i]? = some (some (.own ds)) ∧ c'[i]? = some (some (.fz (.lst ds))) ∧ σ[i]? = some (some (.ref a))
  let F' : Hp := fun a => if own a then W.G a else W.F a
  have ff : Same W.F F' := fun a o e => by
    show (if own a then W.G a else W.F a) = some o
    split
    · exact k.fg _ _ e
    · exact e
  have key : ∀ a, own a → ∃ vs ds, W.H a = some (.lst vs) ∧ W.G a = some (.lst vs) ∧ W0.H a = none ∧ DenL K W.F vs ds := by
    rintro a ⟨i, ds, h1, h2, h3⟩
    obtain ⟨l, vs, e1, e2, e3, e4, e5, e6⟩ := s.ok i _ _ h3 h1
    cases e1
    exact ⟨vs, ds, e2, e3, e5, e6⟩
  refine ⟨⟨W.H, W.G, F'⟩, rfl, ⟨fun a o e => ?_, k.gh, fun a xs e ht => ff a _ (k.gt a xs e ht)⟩, ⟨u.h, u.f.trans ff, fun a o e => ?_⟩, ff, ⟨by rw [hl]; exact s.len, fun i x y h1 h2 => ?_, fun i j x y z w l h1 h2 h3 h4 h5 h6 => ?_⟩⟩
  · have e' : (if own a then W.G a else W.F a) = some o := e
    split at e'
    · exact e'
    · exact k.fg _ _ e'
  · show (if own a then W.G a else W.F a) = W0.F a
    split
    · rename_i ho
      obtain ⟨_, _, _, _, z, _⟩ := key a ho
      rw [z] at e; cases e
    · exact u.fo a o e
  · have hi : i < c.length := by
      have := (List.getElem?_eq_some_iff.mp h2).1
      omega
    have hci : c[i]? = some c[i] := List.getElem?_eq_getElem hi
    have okc := s.ok i x _ h1 hci
    cases hcell : c[i] with
    | none =>
      rw [hcell] at hci okc
      rcases hc i _ hci with z | z <;> (rw [h2] at z; cases z; trivial)
    | some cl =>
      rw [hcell] at hci okc
      cases cl with
      | fz d =>
        rcases hc i _ hci with z | z <;> (rw [h2] at z; cases z; obtain ⟨v, e1, e2⟩ := okc; exact ⟨v, e1, e2.up ff⟩)
      | own ds =>
        obtain ⟨l, vs, e1, e2, e3, e4, e5, e6⟩ := okc
        rcases hc i _ hci with z | z
        · rw [h2] at z; cases z
          refine ⟨l, vs, e1, e2, e3, ?_, e5, e6.up ff⟩
          show (if own l then W.G l else W.F l) = none
          split
          · rename_i ho
            obtain ⟨j, ds', q1, q2, q3⟩ := ho
            have hij := s.one i j _ _ _ _ l h1 hci q3 q1 ⟨e1, rfl⟩ ⟨rfl, rfl⟩
            subst hij
            rw [h2] at q2; cases q2
          · exact e4
        · rw [h2] at z; cases z
          subst e1
          refine ⟨_, rfl, .lst ?_ (e6.up ff)⟩
          show (if own l then W.G l else W.F l) = some (.lst vs)
          rw [if_pos ⟨i, ds, hci, h2, h1⟩]
          exact e3
      | exc C ns ds =>
        obtain ⟨fs, e1, e2, e3, e4⟩ := okc
        rcases hc i _ hci with z | z <;> (rw [h2] at z; cases z; exact ⟨fs, e1, e2, e3, e4.up ff⟩)
      | slf C ns ds =>
        obtain ⟨fs, e1, e2, e3, e4, e5, e6, e7⟩ := okc
        have fin : (if own W0.sa then W.G W0.sa else W.F W0.sa) = none := by
          split
          · exact e3
          · exact e4
        rcases hc i _ hci with z | z <;> (rw [h2] at z; cases z; exact ⟨fs, e1, e2, e3, fin, e5, e6, e7.up ff⟩)
  · have back : ∀ (i : Nat) y x, c'[i]? = some y → Holds x y l → ∃ y', c[i]? = some y' ∧ Holds x y' l := by
      intro i y x q1 q2
      have hi : i < c.length := by
        have := (List.getElem?_eq_some_iff.mp q1).1
        omega
      have hci : c[i]? = some c[i] := List.getElem?_eq_getElem hi
      rcases hc i _ hci with z | z
      · rw [q1] at z; cases z; exact ⟨_, hci, q2⟩
      · rw [q1] at z
        have z' : y = frzCell c[i] := Option.some.inj z
        cases hcell : c[i] with
        | none => rw [hcell] at z'; subst z'; exact absurd q2.2 Bool.false_ne_true
        | some cl =>
          rw [hcell] at z'
          cases cl with
          | fz d => subst z'; exact absurd q2.2 Bool.false_ne_true
          | own es => subst z'; exact absurd q2.2 Bool.false_ne_true
          | exc C ns es => subst z'; exact absurd q2.2 Bool.false_ne_true
          | slf C ns es => subst z'; exact ⟨_, by rw [hci, hcell]; rfl, q2⟩
    obtain ⟨y1, a1, b1⟩ := back i y x h2 h5
    obtain ⟨y2, a2, b2⟩ := back j w z h4 h6
    exact s.one i j _ _ _ _ l h1 a1 h3 a2 b1 b2
def frz (i : Nat) (c : Env) : Env := match c[i]? with
  | some (some (.own ds)) => c.set i (some (.fz (.lst ds)))
  | _ => c
def gFrz (i : Nat) (g : GS) : GS := fun c => g (frz i c)
theorem vs_frz (i : Nat) {t : TS} {g : GS} (h : VS K W0 E t g) : VS K W0 E t (gFrz i g) := by
  intro W σ c D k u s q
  have hfr : ∃ W', W'.H = W.H ∧ WOk W' ∧ Up W0 W' ∧ Same W.F W'.F ∧ SD K W0 W' σ (frz i c) := by
    refine sd_frz k u s ?_ fun j y hj => ?_
    · unfold frz; split <;> simp
    · unfold frz
      split
      · rename_i ds hd
        by_cases hij : i = j
        · subst hij
          rw [hj] at hd; cases hd
          right
          rw [List.getElem?_set_self (List.getElem?_eq_some_iff.mp hj).1]
          rfl
        · left; rw [List.getElem?_set_ne hij]; exact hj
      · left; exact hj
  obtain ⟨W', e, k', u', f', s'⟩ := hfr
  rw [← e]
  exact h W' σ _ D k' u' s' (q.mono f')
def frzAll (c : Env) : Env := c.map frzCell
def gRet (g : GE) : GS := fun c => match g (frzAll c) with
  | some d => some (.ret d)
  | none => none
theorem vs_ret {te : TE} {g : GE} (h : VT K W0 true te g) : VS K W0 E (tRet te) (gRet g) := by
  intro W σ c D k u s q
  obtain ⟨W', e, k', u', f', s'⟩ := sd_frz (c' := frzAll c) k u s (by simp [frzAll]) (fun i y hy => .inr (by simp [frzAll, hy]))
  unfold gRet at q
  cases hg : g (frzAll c) with
  | none => rw [hg] at q; exact q.elim
  | some d =>
    rw [hg] at q
    show te σ W.H D.rt
    rw [← e]
    exact h W' σ _ d _ k' u' s' hg fun W2 v k2 g2 hd => q W2 v k2 (u'.gr g2) (f'.trans g2.f) hd
def gRetN : GS := fun _ => some (.ret .non)
theorem vs_retN : VS K W0 E tRetN gRetN := fun W σ c D k u s q => q W .non k u (Same.refl _) .non

/-! assignments -/
theorem sd_set {W0 W : Wd} {σ : L2.St} {c : Env} (s : SD K W0 W σ c) (i : Nat) (x : Option V) (y : Option Cell) (h : CellOk K W0 W x y)
    (hn : ∀ l, Holds x y l → ∀ (j : Nat) z w, σ[j]? = some z → c[j]? = some w → ¬ Holds z w l) : SD K W0 W (σ.set i x) (c.set i y) := by
  refine ⟨by simp [s.len], fun j z w h1 h2 => ?_, fun j m z w z' w' l h1 h2 h3 h4 h5 h6 => ?_⟩
  · by_cases hij : i = j
    · subst hij
      have hi : i < σ.length := by have := (List.getElem?_eq_some_iff.mp h1).1; simpa using this
      have hi' : i < c.length := by have := (List.getElem?_eq_some_iff.mp h2).1; simpa using this
      rw [List.getElem?_set_self hi] at h1
      rw [List.getElem?_set_self hi'] at h2
      cases h1; cases h2; exact h
    · rw [List.getElem?_set_ne hij] at h1 h2
      exact s.ok j z w h1 h2
  · have sel : ∀ (j : Nat) z w, (σ.set i x)[j]? = some z → (c.set i y)[j]? = some w → (j = i ∧ z = x ∧ w = y) ∨ (j ≠ i ∧ σ[j]? = some z ∧ c[j]? = some w) := by
      intro j z w h1 h2
      by_cases hij : i = j
      · subst hij
        have hi : i < σ.length := by have := (List.getElem?_eq_some_iff.mp h1).1; simpa using this
        have hi' : i < c.length := by have := (List.getElem?_eq_some_iff.mp h2).1; simpa using this
        rw [List.getElem?_set_self hi] at h1
        rw [List.getElem?_set_self hi'] at h2
        cases h1; cases h2; exact .inl ⟨rfl, rfl, rfl⟩
      · rw [List.getElem?_set_ne hij] at h1 h2
        exact .inr ⟨Ne.symm hij, h1, h2⟩
    rcases sel j z w h1 h2 with ⟨a1, a2, a3⟩ | ⟨a1, a2, a3⟩
    · rcases sel m z' w' h3 h4 with ⟨b1, b2, b3⟩ | ⟨b1, b2, b3⟩
      · rw [a1, b1]
      · subst a2 a3; exact (hn l h5 m z' w' b2 b3 h6).elim
    · rcases sel m z' w' h3 h4 with ⟨b1, b2, b3⟩ | ⟨b1, b2, b3⟩
      · subst b2 b3; exact (hn l h6 j z w a2 a3 h5).elim
      · exact s.one j m z w z' w' l a2 a3 b2 b3 h5 h6
theorem noHold_fz {x : Option V} {d : D} {l : Addr} : ¬ Holds x (some (.fz d)) l := fun h => absurd h.2 Bool.false_ne_true
theorem noHold_none {x : Option V} {l : Addr} : ¬ Holds x none l := fun h => absurd h.2 Bool.false_ne_true
theorem sd_fz {W0 W : Wd} {σ : L2.St} {c : Env} (s : SD K W0 W σ c) (i : Nat) {v : V} {d : D} (h : Den K W.F v d) : SD K W0 W (σ.set i (some v)) (c.set i (some (.fz d))) :=
  sd_set s i _ _ ⟨v, rfl, h⟩ fun l h => (noHold_fz h).elim
/-- a target: which slots it stores, what it makes of the cells -/
def VG (K : PySem.W.Frag) (W0 : Wd) (tg : TG) (js : List Nat) (f : D → Env → Option Env) : Prop :=
  ∀ (W : Wd) (σ : L2.St) (c c' : Env) (v : V) (d : D) (Q : L2.St → Hp → Prop), WOk W → SD K W0 W σ c → Den K W.F v d → f d c = some c' →
    (∀ σ', SD K W0 W σ' c' → σ'.length = σ.length → (∀ k, k ∉ js → σ'[k]? = σ[k]?) → Q σ' W.H) → tg v σ W.H Q
def VGs (K : PySem.W.Frag) (W0 : Wd) (tg : TGs) (js : List Nat) (f : List D → Env → Option Env) : Prop :=
  ∀ (W : Wd) (σ : L2.St) (c c' : Env) (vs : List V) (ds : List D) (Q : L2.St → Hp → Prop), WOk W → SD K W0 W σ c → DenL K W.F vs ds → f ds c = some c' →
    (∀ σ', SD K W0 W σ' c' → σ'.length = σ.length → (∀ k, k ∉ js → σ'[k]? = σ[k]?) → Q σ' W.H) → tg vs σ W.H Q
def fName (i : Nat) : D → Env → Option Env := fun d c => some (c.set i (some (.fz d)))
theorem vg_name (i : Nat) : VG K W0 (gName i) [i] (fName i) := by
  intro W σ c c' v d Q k s hd e q
  cases e
  refine q _ (sd_fz s i hd) (by simp) fun j hj => List.getElem?_set_ne ?_
  simp at hj; exact Ne.symm hj
def fNil : List D → Env → Option Env
  | [], c => some c
  | _, _ => none
def fCons (f : D → Env → Option Env) (fs : List D → Env → Option Env) : List D → Env → Option Env
  | d :: ds, c => match f d c with
    | some c' => fs ds c'
    | none => none
  | [], _ => none
def fTup (n : Nat) (fs : List D → Env → Option Env) : D → Env → Option Env
  | .tup ds, c => if ds.length = n then fs ds c else none
  | _, _ => none
theorem vgs_nil : VGs K W0 L2.gNil [] fNil := by
  intro W σ c c' vs ds Q k s hd e q
  cases ds with
  | nil => cases e; cases hd; exact ⟨rfl, q σ s rfl fun _ _ => rfl⟩
  | cons d ds => cases e
theorem vgs_cons {t : TG} {ts : TGs} {js ks : List Nat} {f : D → Env → Option Env} {fs : List D → Env → Option Env} (h : VG K W0 t js f) (hs : VGs K W0 ts ks fs) : VGs K W0 (L2.gCons t ts) (js ++ ks) (fCons f fs) := by
  intro W σ c c' vs ds Q k s hd e q
  cases ds with
  | nil => cases e
  | cons d ds =>
    cases hd with
    | cons h1 h2 =>
      simp only [fCons] at e
      split at e
      · rename_i c1 hc1
        refine ⟨_, _, rfl, h W σ c c1 _ d _ k s h1 hc1 fun σ1 s1 l1 a1 => hs W σ1 c1 c' _ ds _ k s1 h2 e fun σ2 s2 l2 a2 => q σ2 s2 (l2.trans l1) fun j hj => ?_⟩
        rw [List.mem_append] at hj
        exact (a2 j fun z => hj (.inr z)).trans (a1 j fun z => hj (.inl z))
      · cases e
theorem vg_tup {n : Nat} {ts : TGs} {js : List Nat} {fs : List D → Env → Option Env} (hs : VGs K W0 ts js fs) : VG K W0 (L2.gTup K n ts) js (fTup n fs) := by
  intro W σ c c' v d Q k s hd e q
  unfold fTup at e
  split at e
  · split at e
    · rename_i hn
      cases hd with
      | tup h1 h2 => exact ⟨_, _, rfl, sqT_same k.fh h1, by rw [h2.length]; exact hn, hs W σ c c' _ _ Q k s h2 e q⟩
    · cases e
  · cases e
def gAsg (g : GE) (f : D → Env → Option Env) : GS := fun c => match g c with
  | some d => match f d c with
    | some c' => some (.nx c')
    | none => none
  | none => none
theorem vs_asg {te : TE} {g : GE} {tg : TG} {js : List Nat} {f : D → Env → Option Env} (h : VT K W0 true te g) (hg : VG K W0 tg js f) : VS K W0 E (tAsg te tg) (gAsg g f) := by
  intro W σ c D k u s q
  unfold gAsg at q
  cases e : g c with
  | none => rw [e] at q; exact q.elim
  | some d =>
    rw [e] at q
    refine h W σ c d _ k u s e fun W' v k' g' hd => ?_
    cases e2 : f d c with
    | none => simp only [e2] at q; exact q.elim
    | some c' =>
      simp only [e2] at q
      exact hg W' σ c c' v d _ k' (s.gr g') hd e2 fun σ' s' _ _ => q W' σ' k' (u.gr g') g'.f s'
/-- name = a new list -/
def gAsgN (i : Nat) (g : GA) : GS := fun c => match g c with
  | some ds => some (.nx (c.set i (some (.own ds))))
  | none => none
theorem hold_there {W0 W : Wd} {σ : L2.St} {c : Env} (s : SD K W0 W σ c) {j : Nat} {z : Option V} {w : Option Cell} {l : Addr} (h1 : σ[j]? = some z) (h2 : c[j]? = some w) (h : Holds z w l) : ∃ o, W.H l = some o := by
  obtain ⟨g1, g2⟩ := h
  have q := s.ok j z w h1 h2
  cases w with
  | none => exact absurd g2 Bool.false_ne_true
  | some cl =>
    cases cl with
    | fz d => exact absurd g2 Bool.false_ne_true
    | own ds =>
      obtain ⟨l', vs, e1, e2, _⟩ := q
      rw [g1] at e1; cases e1
      exact ⟨_, e2⟩
    | exc C ns ds => exact absurd g2 Bool.false_ne_true
    | slf C ns ds =>
      obtain ⟨fs, e1, e2, _⟩ := q
      rw [g1] at e1; cases e1
      exact ⟨_, e2⟩
theorem vs_asgN {i : Nat} {te : TE} {g : GA} (h : VN K W0 te g) : VS K W0 E (tAsg te (gName i)) (gAsgN i g) := by
  intro W σ c D k u s q
  unfold gAsgN at q
  cases e : g c with
  | none => rw [e] at q; exact q.elim
  | some ds =>
    rw [e] at q
    refine h W σ c ds _ k u s e fun W' l vs k' g' hl hd => ?_
    have k2 : WOk (W'.new false l (.lst vs)) := new_ok k' hl
    have g2 : Gr W' (W'.new false l (.lst vs)) := new_gr k' hl
    have nW0 : W0.H l = none := (u.gr g').h.free hl
    refine q (W'.new false l (.lst vs)) _ k2 ((u.gr g').gr g2) (g'.f.trans g2.f) (sd_set ((s.gr g').gr g2) i _ _ ?_ ?_)
    · exact ⟨l, vs, rfl, upd_same, upd_same, k'.nF hl, nW0, hd⟩
    · rintro l' ⟨h1, _⟩ j z w h3 h4 h5
      cases h1
      obtain ⟨o, ho⟩ := hold_there (s.gr g') h3 h4 h5
      rw [hl] at ho; cases ho
def gDrop (g : GE) : GS := fun c => match g c with
  | some _ => some (.nx c)
  | none => none
theorem vs_expr {b : Bool} {te : TE} {g : GE} (h : VT K W0 b te g) : VS K W0 E (tDrop te) (gDrop g) := by
  intro W σ c D k u s q
  unfold gDrop at q
  cases e : g c with
  | none => rw [e] at q; exact q.elim
  | some d =>
    rw [e] at q
    exact h W σ c d _ k u s e fun W' v k' g' hd => q W' σ k' (u.gr g') g'.f (s.gr g')

/-! a list of one's own is changed -/
def Wd.wr (W : Wd) (l : Addr) (o : HO) : Wd := ⟨upd W.H l o, upd W.G l o, W.F⟩
theorem wr_sd {W0 W : Wd} {σ : L2.St} {c : Env} (k : WOk W) (u : Up W0 W) (s : SD K W0 W σ c) {i : Nat} {l : Addr} {vs us : List V} {ds es : List D} (hσ : σ[i]? = some (some (.ref l))) (hc : c[i]? = some (some (.own ds)))
    (hd : DenL K W.F us es) : WOk (W.wr l (.lst us)) ∧ Up W0 (W.wr l (.lst us)) ∧ SD K W0 (W.wr l (.lst us)) σ (c.set i (some (.own es))) := by
  obtain ⟨l', vs', e1, e2, e3, e4, e5, e6⟩ := s.ok i _ _ hσ hc
  cases e1
  have neF : ∀ a o, W.F a = some o → a ≠ l := fun a o e z => by rw [z, e4] at e; cases e
  refine ⟨⟨fun a o e => ?_, same_upd2 k.gh, fun a xs e ht => by
    have e' : upd W.G l (.lst us) a = some xs := e
    by_cases h : a = l
    · subst h; rw [upd_same] at e'; cases e'; cases ht
    · rw [upd_ne h] at e'; exact k.gt a xs e' ht⟩, ⟨fun a o e => ?_, u.f, u.fo⟩, ⟨by simp [s.len], fun j x y h1 h2 => ?_, fun j m x y z w l' h1 h2 h3 h4 h5 h6 => ?_⟩⟩
  · show upd W.G l _ a = some o
    rw [upd_ne (neF a o e)]
    exact k.fg a o e
  · show upd W.H l _ a = some o
    rw [upd_ne (fun z => by rw [z, e5] at e; cases e)]
    exact u.h a o e
  · by_cases hij : i = j
    · subst hij
      rw [List.getElem?_set_self (List.getElem?_eq_some_iff.mp hc).1] at h2
      cases h2
      rw [hσ] at h1; cases h1
      exact ⟨l, us, rfl, upd_same, upd_same, e4, e5, hd⟩
    · rw [List.getElem?_set_ne hij] at h2
      have q := s.ok j x y h1 h2
      have nl : ∀ l', Holds x y l' → l' ≠ l := fun l' h z => by
        subst z
        exact hij (s.one i j _ _ _ _ l' hσ hc h1 h2 ⟨rfl, rfl⟩ h)
      cases y with
      | none => trivial
      | some cl =>
        cases cl with
        | fz d => exact q
        | own es' =>
          obtain ⟨l2, vs2, a1, a2, a3, a4, a5, a6⟩ := q
          have ne := nl l2 ⟨a1, rfl⟩
          exact ⟨l2, vs2, a1, (upd_ne ne).trans a2, (upd_ne ne).trans a3, a4, a5, a6⟩
        | exc C ns es' =>
          obtain ⟨fs, a1, a2, a3, a4⟩ := q
          exact ⟨fs, a1, (upd_ne (ne_of a2 e2 (by intro z; cases z))).trans a2, a3, a4⟩
        | slf C ns es' =>
          obtain ⟨fs, a1, a2, a3, a4, a5, a6, a7⟩ := q
          have ne := nl W0.sa ⟨a1, rfl⟩
          exact ⟨fs, a1, (upd_ne ne).trans a2, (upd_ne ne).trans a3, a4, a5, a6, a7⟩
  · have back : ∀ (j : Nat) x y, σ[j]? = some x → (c.set i (some (.own es)))[j]? = some y → Holds x y l' → ∃ y', c[j]? = some y' ∧ Holds x y' l' := by
      intro j x y q1 q2 q3
      by_cases hij : i = j
      · subst hij
        rw [List.getElem?_set_self (List.getElem?_eq_some_iff.mp hc).1] at q2
        cases q2
        exact ⟨_, hc, q3.1, rfl⟩
      · rw [List.getElem?_set_ne hij] at q2
        exact ⟨_, q2, q3⟩
    obtain ⟨y1, a1, b1⟩ := back j x y h1 h2 h5
    obtain ⟨y2, a2, b2⟩ := back m z w h3 h4 h6
    exact s.one j m _ _ _ _ l' h1 a1 h3 a2 b1 b2
def gAppend (i : Nat) (g : GE) : GS := fun c => match c[i]? with
  | some (some (.own ds)) => match g c with
    | some d => if ds.length < sizeLine then some (.nx (c.set i (some (.own (ds ++ [d]))))) else none
    | none => none
  | _ => none
theorem vs_append {i : Nat} {te : TE} {g : GE} (h : VT K W0 true te g) : VS K W0 E (tDrop (tBM K "list" rAppend (tVar i) (tCons te tNil))) (gAppend i g) := by
  intro W σ c D k u s q
  unfold gAppend at q
  split at q
  · rename_i ds hc
    cases e : g c with
    | none => rw [e] at q; exact q.elim
    | some d =>
      simp only [e] at q
      by_cases hz : ds.length < sizeLine
      · rw [if_pos hz] at q
        obtain ⟨x, hx, l, vs, rfl, h1, h2, h3, h4, h5⟩ := s.at hc
        refine ⟨_, hx, .inl ⟨rfl, _, SqL.of h1⟩, h W σ c d _ k u s e fun W' v k' g' hd => ?_⟩
        refine ⟨l, vs, v, rfl, rfl, g'.h _ _ h1, by rw [h5.length]; exact hz, ?_⟩
        obtain ⟨k2, u2, s2⟩ := wr_sd (vs := vs) k' (u.gr g') (s.gr g') hx hc ((h5.up g'.f).append (.cons hd .nil))
        exact q (W'.wr l (.lst (vs ++ [v]))) σ k2 u2 g'.f s2
      · rw [if_neg hz] at q; exact q.elim
  · exact q.elim
/-- x[k] = e -/
def gSetIx (i : Nat) (gk ge : GE) : GS := fun c => match c[i]? with
  | some (some (.own ds)) => match ge c with
    | some d => match gk c with
      | some (.int j) => match ixN ds.length j with
        | some n => some (.nx (c.set i (some (.own (ds.set n d)))))
        | none => none
      | _ => none
    | none => none
  | _ => none
theorem vs_setIx {i : Nat} {b : Bool} {tk te : TE} {gk ge : GE} (hk : VT K W0 b tk gk) (he : VT K W0 true te ge) : VS K W0 E (tAsg te (gSub (tVar i) tk rSetL)) (gSetIx i gk ge) := by
  intro W σ c D k u s q
  unfold gSetIx at q
  split at q
  · rename_i ds hc
    cases e : ge c with
    | none => rw [e] at q; exact q.elim
    | some d =>
      simp only [e] at q
      cases e2 : gk c with
      | none => rw [e2] at q; exact q.elim
      | some z =>
        cases z with
        | int j =>
          simp only [e2] at q
          cases e3 : ixN ds.length j with
          | none => rw [e3] at q; exact q.elim
          | some n =>
            simp only [e3] at q
            obtain ⟨x, hx, l, vs, rfl, h1, h2, h3, h4, h5⟩ := s.at hc
            refine he W σ c d _ k u s e fun W1 v k1 g1 hd => ⟨_, hx, ?_⟩
            refine hk W1 σ c _ _ k1 (u.gr g1) (s.gr g1) e2 fun W2 v2 k2 g2 hd2 => ?_
            cases hd2
            refine ⟨l, vs, j, n, rfl, rfl, g2.h _ _ (g1.h _ _ h1), by rw [h5.length]; exact e3, ?_⟩
            obtain ⟨k3, u3, s3⟩ := wr_sd (vs := vs) k2 ((u.gr g1).gr g2) ((s.gr g1).gr g2) hx hc (DenL.set n ((h5.up g1.f).up g2.f) (hd.up g2.f))
            exact q (W2.wr l (.lst (vs.set n v))) σ k3 u3 (g1.f.trans g2.f) s3
        | _ => simp only [e2] at q; exact q.elim
  · exact q.elim
/-- name op= e, ints -/
def gAug (i : Nat) (f : D → D → Option D) (g : GE) : GS := fun c => match gVar i c with
  | some x => match g c with
    | some y => match f x y with
      | some z => some (.nx (c.set i (some (.fz z))))
      | none => none
    | none => none
  | none => none
def dAddI : D → D → Option D
  | .int i, .int j => some (.int (i + j))
  | _, _ => none
theorem vs_augI {i : Nat} {b : Bool} {te : TE} {g : GE} {f : Int → Int → Int} {fd : D → D → Option D} (hf : ∀ x y z, fd x y = some z → ∃ a b, x = .int a ∧ y = .int b ∧ z = .int (f a b)) (h : VT K W0 b te g) : VS K W0 E (tAug i te (ipI f)) (gAug i fd g) := by
  intro W σ c D k u s q
  unfold gAug at q
  cases e1 : gVar i c with
  | none => rw [e1] at q; exact q.elim
  | some x =>
    simp only [e1] at q
    cases e2 : g c with
    | none => rw [e2] at q; exact q.elim
    | some y =>
      simp only [e2] at q
      cases e3 : fd x y with
      | none => rw [e3] at q; exact q.elim
      | some z =>
        simp only [e3] at q
        obtain ⟨a, a', rfl, rfl, rfl⟩ := hf x y z e3
        unfold gVar at e1
        split at e1
        · rename_i d hc
          cases e1
          obtain ⟨w, hw, v, rfl, hv⟩ := s.at hc
          cases hv
          refine ⟨_, hw, h W σ c _ _ k u s e2 fun W' v k' g' hd => ?_⟩
          cases hd
          exact ⟨a, a', rfl, rfl, q W' _ k' (u.gr g') g'.f (sd_fz (s.gr g') i (.int _))⟩
        · cases e1
theorem aug_add : ∀ x y z, dAddI x y = some z → ∃ a b, x = .int a ∧ y = .int b ∧ z = .int ((fun i j : Int => i + j) a b) := by
  intro x y z h
  unfold dAddI at h
  split at h
  · cases h; exact ⟨_, _, rfl, rfl, rfl⟩
  · cases h
theorem aug_sub : ∀ x y z, dSub x y = some z → ∃ a b, x = .int a ∧ y = .int b ∧ z = .int ((fun i j : Int => i - j) a b) := by
  intro x y z h
  unfold dSub at h
  split at h
  · cases h; exact ⟨_, _, rfl, rfl, rfl⟩
  · cases h

/-! ### loops -/
/-- the walk J yields ds, one after another, while F stands -/
def Yields (K : PySem.W.Frag) (F : Hp) (J : It) (ds : List D) : Prop :=
  ∀ (W : Wd) (i : Nat), WOk W → Same F W.F → (ds.length ≤ i → J.stop i W.H) ∧ (∀ d, ds[i]? = some d → J.go i W.H ∧ ∀ x H', J.yld i W.H x H' → ∃ W', WOk W' ∧ Gr W W' ∧ W'.H = H' ∧ Den K W'.F x d)
def VI (K : PySem.W.Frag) (W0 : Wd) (wi : TI) (g : GA) : Prop :=
  ∀ (W : Wd) (σ : L2.St) (c : Env) (ds : List D) (R : It → Hp → Prop), WOk W → Up W0 W → SD K W0 W σ c → g c = some ds → (∀ W' J, WOk W' → Gr W W' → Yields K W'.F J ds → R J W'.H) → wi σ W.H R
def gLoop (f : D → Env → Option Env) (gb : GS) : List D → Env → Option Out
  | [], c => some (.nx c)
  | d :: ds, c => match f d c with
    | none => none
    | some c1 => match gb c1 with
      | some (.nx c2) => gLoop f gb ds c2
      | some (.ct c2) => gLoop f gb ds c2
      | some (.bk c2) => some (.nx c2)
      | r => r
def gFor (gi : GA) (f : D → Env → Option Env) (gb : GS) : GS := fun c => match gi c with
  | some ds => gLoop f gb ds c
  | none => none
theorem vs_for {wi : TI} {gi : GA} {tg : TG} {js : List Nat} {f : D → Env → Option Env} {tb : TS} {gb : GS} (hi : VI K W0 wi gi) (hg : VG K W0 tg js f) (hb : VS K W0 E tb gb) : VS K W0 E (tFor wi tg tb) (gFor gi f gb) := by
  intro W σ c D k u s q
  unfold gFor at q
  cases e : gi c with
  | none => rw [e] at q; exact q.elim
  | some ds =>
    simp only [e] at q
    refine hi W σ c ds _ k u s e fun W1 J k1 g1 y1 => ?_
    refine ⟨fun i m σ H => m = ds.length - i ∧ i ≤ ds.length ∧ ∃ Wx cx, Wx.H = H ∧ WOk Wx ∧ Up W0 Wx ∧ Same W1.F Wx.F ∧ SD K W0 Wx σ cx ∧ Post K E W0 W1.F D (gLoop f gb (ds.drop i) cx), ?_, ?_⟩
    · exact ⟨_, rfl, Nat.zero_le _, W1, c, rfl, k1, u.gr g1, Same.refl _, s.gr g1, by rw [List.drop_zero]; exact q.mono g1.f⟩
    · rintro i m σx H ⟨rfl, him, Wx, cx, rfl, kx, ux, fx, sx, px⟩
      by_cases hlt : i < ds.length
      · right
        have hd : ds[i]? = some ds[i] := List.getElem?_eq_getElem hlt
        obtain ⟨go, yl⟩ := (y1 Wx i kx fx).2 _ hd
        refine ⟨go, fun σ' H' => ∃ Wy cy, Wy.H = H' ∧ WOk Wy ∧ Up W0 Wy ∧ Same W1.F Wy.F ∧ SD K W0 Wy σ' cy ∧ Post K E W0 W1.F D (gLoop f gb (ds.drop (i + 1)) cy), fun σ' H' h => ⟨ds.length - (i + 1), by omega, rfl, hlt, h⟩, fun x H' hy => ?_⟩
        obtain ⟨W2, k2, g2, rfl, d2⟩ := yl x H' hy
        rw [List.drop_eq_getElem_cons hlt] at px
        unfold gLoop at px
        cases e1 : f ds[i] cx with
        | none => simp only [e1] at px; exact px.elim
        | some c1 =>
          simp only [e1] at px
          refine hg W2 σx cx c1 x _ _ k2 (sx.gr g2) d2 e1 fun σ' s' _ _ => ?_
          refine hb W2 σ' c1 _ k2 (ux.gr g2) s' ?_
          have f2 : Same W1.F W2.F := fx.trans g2.f
          cases e2 : gb c1 with
          | none => rw [e2] at px; exact px.elim
          | some o =>
            rw [e2] at px
            cases o with
            | nx c2 => exact fun W3 σ3 k3 u3 f3 s3 => ⟨W3, c2, rfl, k3, u3, f2.trans f3, s3, px⟩
            | ct c2 => exact fun W3 σ3 k3 u3 f3 s3 => ⟨W3, c2, rfl, k3, u3, f2.trans f3, s3, px⟩
            | bk c2 => exact fun W3 σ3 k3 u3 f3 s3 => px W3 σ3 k3 u3 (f2.trans f3) s3
            | ret d => exact fun W3 v k3 u3 f3 d3 => px W3 v k3 u3 (f2.trans f3) d3
            | ex C ns es => exact fun W3 dx fs k3 u3 f3 => px W3 dx fs k3 u3 (f2.trans f3)
      · left
        have hi : i = ds.length := by omega
        subst hi
        rw [List.drop_length] at px
        exact ⟨(y1 Wx _ kx fx).1 (Nat.le_refl _), px Wx σx kx ux fx sx⟩
theorem yields_list {F : Hp} {a : Addr} {xs : List V} {ds : List D} (h : SqL K F a xs) (hd : DenL K F xs ds) : Yields K F (Itl K a) ds := by
  intro W i k f
  have hq : SqL K W.H a xs := (k.fh).seq (f.seq h)
  have inj : ∀ ys, SqL K W.H a ys → True := fun _ _ => trivial
  refine ⟨fun hi => ⟨xs, hq, by rw [hd.length]; exact hi⟩, fun d e => ?_⟩
  obtain ⟨v, hv, dv⟩ := hd.get e
  refine ⟨⟨xs, v, hq, hv⟩, fun x H' y => ⟨W, k, Gr.refl W, y.1.symm, ?_⟩⟩
  have := y.2 xs hq
  rw [hv] at this; cases this
  exact dv.up f
theorem yields_tup {F : Hp} {a : Addr} {xs : List V} {ds : List D} (h : SqT K F a xs) (hd : DenL K F xs ds) : Yields K F (Itt K a) ds := by
  intro W i k f
  have hq : SqT K W.H a xs := sqT_same k.fh (sqT_same f h)
  refine ⟨fun hi => ⟨xs, hq, by rw [hd.length]; exact hi⟩, fun d e => ?_⟩
  obtain ⟨v, hv, dv⟩ := hd.get e
  refine ⟨⟨xs, v, hq, hv⟩, fun x H' y => ⟨W, k, Gr.refl W, y.1.symm, ?_⟩⟩
  have := y.2 xs hq
  rw [hv] at this; cases this
  exact dv.up f
/-- a list or a tuple is walked -/
def iSeq (K : PySem.W.Frag) (tl : TE) : TI := fun σ H R => tl σ H fun x H1 => ∃ a, x = .ref a ∧ ((∃ xs, SqL K H1 a xs ∧ R (Itl K a) H1) ∨ (∃ xs, SqT K H1 a xs ∧ R (Itt K a) H1))
theorem pi_seq {X : Cx} {tg l : Expr} {tl : TE} (hl : PE X l tl) : PI X tg l (iSeq X.K tl) := by
  refine ⟨fun pins s σ H R I h => ?_⟩
  refine thn (hl.run pins s σ H _ I h) fun v s1 ⟨x, H1, I1, r1, q1⟩ => ?_
  obtain ⟨a, e, q1⟩ := q1
  subst e
  cases r1
  rcases q1 with ⟨xs, hq, q⟩ | ⟨xs, hq, q⟩
  · obtain ⟨its, rv, p, hz⟩ := I1.list hq
    refine wpAny_pyIter_list p.isList ?_
    refine ⟨s1.heap.objs.size, [s1.heap.objs.size], _, _, H1, rfl, I1.kept (t' := s1.toks) fun b o e => Heap.get?_push_of_some _ e, turn_list a _, ⟨_, Heap.get?_push_size _ rfl, rfl, rfl⟩, fun b hb => ?_, q⟩
    have e : b = s1.heap.objs.size := by simpa using hb
    subst e
    exact I1.fpOk (Nat.le_refl _) (I1.hok.fresh (Nat.le_refl _))
  · obtain ⟨its, rv, p, hz⟩ := I1.tuple hq
    have p2 : s1.heap.IsTuple a its.toArray := p
    refine wpAny_pyIter_tuple p2 ?_
    refine ⟨s1.heap.objs.size, [s1.heap.objs.size], _, _, H1, rfl, I1.kept (t' := s1.toks) fun b o e => Heap.get?_push_of_some _ e, turn_tuple a _, ⟨_, Heap.get?_push_size _ rfl, rfl, rfl⟩, fun b hb => ?_, q⟩
    have e : b = s1.heap.objs.size := by simpa using hb
    subst e
    exact I1.fpOk (Nat.le_refl _) (I1.hok.fresh (Nat.le_refl _))
theorem vi_seq {te : TE} {g : GE} (h : VT K W0 true te g) : VI K W0 (iSeq K te) (gItems g) := by
  intro W σ c ds R k u s e q
  unfold gItems at e
  split at e
  · rename_i d hd
    refine h W σ c d _ k u s hd fun W1 v k1 g1 d1 => ?_
    cases d with
    | lst es =>
      cases e
      cases d1 with
      | lst h1 h2 => exact ⟨_, rfl, .inl ⟨_, SqL.of (k1.fh _ _ h1), q W1 _ k1 g1 (yields_list (SqL.of h1) h2)⟩⟩
    | scr es =>
      cases e
      cases d1 with
      | scr h1 h2 => exact ⟨_, rfl, .inl ⟨_, k1.fh.seq h1, q W1 _ k1 g1 (yields_list h1 h2)⟩⟩
    | tup es =>
      cases e
      cases d1 with
      | tup h1 h2 => exact ⟨_, rfl, .inr ⟨_, sqT_same k1.fh h1, q W1 _ k1 g1 (yields_tup h1 h2)⟩⟩
    | _ => cases e
  · cases e
def rgD (a : Int) (n : Nat) : List D := (List.range n).map fun i => .int (a + (i : Nat))
theorem rgD_len (a : Int) (n : Nat) : (rgD a n).length = n := by simp [rgD]
theorem rgD_get {a : Int} {n i : Nat} {d : D} (h : (rgD a n)[i]? = some d) : i < n ∧ d = .int (a + (i : Nat)) := by
  have hi : i < n := by have := (List.getElem?_eq_some_iff.mp h).1; rwa [rgD_len] at this
  refine ⟨hi, ?_⟩
  unfold rgD at h
  rw [List.getElem?_map, List.getElem?_range hi] at h
  exact (Option.some.inj h).symm
theorem yields_range {F : Hp} {a : Int} {n : Nat} : Yields K F (Itr a n) (rgD a n) := by
  intro W i k f
  refine ⟨fun hi => by rw [rgD_len] at hi; exact hi, fun d e => ?_⟩
  obtain ⟨hi, rfl⟩ := rgD_get e
  exact ⟨hi, fun x H' y => ⟨W, k, Gr.refl W, y.1.symm, by rw [y.2]; exact .int _⟩⟩
def gRg1 (gs : GA) : GA := fun c => match gs c with
  | some [.int j] => if -(2 ^ 62) ≤ j ∧ j < 2 ^ 62 then some (rgD 0 j.toNat) else none
  | _ => none
def gRg2 (gs : GA) : GA := fun c => match gs c with
  | some [.int i, .int j] => if -(2 ^ 62) ≤ i ∧ i < 2 ^ 62 ∧ -(2 ^ 62) ≤ j ∧ j < 2 ^ 62 then some (rgD i (j - i).toNat) else none
  | _ => none
theorem vi_rg1 {b : Bool} {ts : TA} {gs : GA} (h : VArg K W0 b ts gs) : VI K W0 (iRng1 ts) (gRg1 gs) := by
  intro W σ c ds R k u s e q
  unfold gRg1 at e
  split at e
  · rename_i j hj
    split at e
    · rename_i hz
      cases e
      refine h W σ c _ _ k u s hj fun W1 vs k1 g1 d1 => ?_
      cases d1 with
      | cons h1 h2 => cases h1; cases h2; exact ⟨j, rfl, hz.1, hz.2, q W1 _ k1 g1 yields_range⟩
    · cases e
  · cases e
theorem vi_rg2 {b : Bool} {ts : TA} {gs : GA} (h : VArg K W0 b ts gs) : VI K W0 (iRng2 ts) (gRg2 gs) := by
  intro W σ c ds R k u s e q
  unfold gRg2 at e
  split at e
  · rename_i i j hj
    split at e
    · rename_i hz
      cases e
      refine h W σ c _ _ k u s hj fun W1 vs k1 g1 d1 => ?_
      cases d1 with
      | cons h1 h2 =>
        cases h2 with
        | cons h2 h3 => cases h1; cases h2; cases h3; exact ⟨i, j, rfl, hz, q W1 _ k1 g1 yields_range⟩
    · cases e
  · cases e
/-! a text's signs -/
def gSigns (g : GE) : GA := fun c => match g c with
  | some (.str x) => some (x.cps.toList.map fun n => .str ⟨#[n]⟩)
  | _ => none
theorem vi_str {b : Bool} {te : TE} {g : GE} (h : VT K W0 b te g) : VI K W0 (iStr te) (gSigns g) := by
  intro W σ c ds R k u s e q
  unfold gSigns at e
  split at e
  · rename_i x hx
    cases e
    refine h W σ c _ _ k u s hx fun W1 v k1 g1 d1 => ?_
    cases d1
    refine ⟨x, rfl, q W1 _ k1 g1 fun W2 i k2 f2 => ?_⟩
    refine ⟨fun hi => ?_, fun d hd => ?_⟩
    · simp only [List.length_map, Array.length_toList] at hi
      exact hi
    · rw [List.getElem?_map] at hd
      simp only [Option.map_eq_some_iff] at hd
      obtain ⟨n, h1, h2⟩ := hd
      subst h2
      have hn : x.cps[i]? = some n := by simpa using h1
      refine ⟨?_, fun y H' hy => ⟨W2, k2, Gr.refl W2, ?_, ?_⟩⟩
      · exact (Array.getElem?_eq_some_iff.mp hn).1
      · exact hy.1.symm
      · obtain ⟨_, m, e1, e2⟩ := hy
        rw [hn] at e1
        cases e1
        rw [e2]
        exact .str _
  · cases e
/-! while, with fuel -/
def gWl (p : GB) (gb : GS) : Nat → Env → Option Out
  | 0, _ => none
  | n + 1, c => match p c with
    | none => none
    | some false => some (.nx c)
    | some true => match gb c with
      | some (.nx c2) => gWl p gb n c2
      | some (.ct c2) => gWl p gb n c2
      | some (.bk c2) => some (.nx c2)
      | r => r
def gWhile (fuel : Env → Nat) (p : GB) (gb : GS) : GS := fun c => gWl p gb (fuel c) c
theorem vs_while (fuel : Env → Nat) {tt : TT} {p : GB} {tb : TS} {gb : GS} (hp : VB K W0 tt p) (hb : VS K W0 E tb gb) : VS K W0 E (tWhile tt tb) (gWhile fuel p gb) := by
  intro W σ c D k u s q
  refine ⟨fun m σ H => ∃ Wx cx, Wx.H = H ∧ WOk Wx ∧ Up W0 Wx ∧ Same W.F Wx.F ∧ SD K W0 Wx σ cx ∧ Post K E W0 W.F D (gWl p gb m cx), ⟨fuel c, W, c, rfl, k, u, Same.refl _, s, q⟩, ?_⟩
  rintro m σx H ⟨Wx, cx, rfl, kx, ux, fx, sx, px⟩
  cases m with
  | zero => exact px.elim
  | succ n =>
    unfold gWl at px
    cases e : p cx with
    | none => rw [e] at px; exact px.elim
    | some b =>
      rw [e] at px
      refine hp Wx σx cx b _ kx ux sx e fun W2 k2 g2 => ?_
      cases b with
      | false => rw [if_neg Bool.false_ne_true]; exact px W2 σx k2 (ux.gr g2) (fx.trans g2.f) (sx.gr g2)
      | true =>
        rw [if_pos rfl]
        refine ⟨fun σ' H' => ∃ Wy cy, Wy.H = H' ∧ WOk Wy ∧ Up W0 Wy ∧ Same W.F Wy.F ∧ SD K W0 Wy σ' cy ∧ Post K E W0 W.F D (gWl p gb n cy), fun σ' H' h => ⟨n, Nat.lt_succ_self n, h⟩, ?_⟩
        refine hb W2 σx cx _ k2 (ux.gr g2) (sx.gr g2) ?_
        have f2 : Same W.F W2.F := fx.trans g2.f
        cases e2 : gb cx with
        | none => rw [e2] at px; exact px.elim
        | some o =>
          rw [e2] at px
          cases o with
          | nx c2 => exact fun W3 σ3 k3 u3 f3 s3 => ⟨W3, c2, rfl, k3, u3, f2.trans f3, s3, px⟩
          | ct c2 => exact fun W3 σ3 k3 u3 f3 s3 => ⟨W3, c2, rfl, k3, u3, f2.trans f3, s3, px⟩
          | bk c2 => exact fun W3 σ3 k3 u3 f3 s3 => px W3 σ3 k3 u3 (f2.trans f3) s3
          | ret d => exact fun W3 v k3 u3 f3 d3 => px W3 v k3 u3 (f2.trans f3) d3
          | ex C ns es => exact fun W3 dx fs k3 u3 f3 => px W3 dx fs k3 u3 (f2.trans f3)
end
end VL
end

section
/-! VD: comprehensions, defs and calls by data. -/
namespace VL
open PySem PySem.Spec PyProof.Rows L2
section
variable {K : PySem.W.Frag} {E : XK}

/-! ### a list comprehension -/
def wipeC (c : Env) : List Nat → Env
  | [] => c
  | v :: vs => (wipeC c vs).set v none
theorem wipeC_len (c : Env) : ∀ vs, (wipeC c vs).length = c.length
  | [] => rfl
  | v :: vs => by unfold wipeC; rw [List.length_set, wipeC_len c vs]
theorem sd_wipe {W0 W : Wd} {σ : L2.St} {c : Env} (s : SD K W0 W σ c) : ∀ vs : List Nat, SD K W0 W (wipe σ vs) (wipeC c vs)
  | [] => s
  | v :: vs => by
    unfold wipe wipeC
    exact sd_set (sd_wipe s vs) v none none trivial fun l h => (noHold_none h).elim
theorem wipe_eq {σ τ : L2.St} (hl : σ.length = τ.length) : ∀ {vs : List Nat}, (∀ k, k ∉ vs → σ[k]? = τ[k]?) → wipe σ vs = wipe τ vs := by
  intro vs h
  apply List.ext_getElem?
  intro i
  have key : ∀ (ρ : L2.St) (vs : List Nat), (wipe ρ vs)[i]? = if i ∈ vs then (if i < ρ.length then some none else none) else ρ[i]? := by
    intro ρ vs
    induction vs with
    | nil => simp [wipe]
    | cons v vs ih =>
      unfold wipe
      by_cases hv : v = i
      · subst hv
        rw [List.getElem?_set_self']
        rw [ih]
        by_cases hm : v ∈ vs
        · rw [if_pos hm, if_pos (List.mem_cons_self ..)]
          split <;> rfl
        · rw [if_neg hm, if_pos (List.mem_cons_self ..)]
          by_cases hi : v < ρ.length
          · rw [List.getElem?_eq_getElem hi, if_pos hi]; rfl
          · rw [List.getElem?_eq_none (by omega), if_neg hi]; rfl
      · rw [List.getElem?_set_ne hv, ih]
        have : i ∈ v :: vs ↔ i ∈ vs := by simp [Ne.symm hv]
        by_cases hm : i ∈ vs
        · rw [if_pos hm, if_pos (this.mpr hm)]
        · rw [if_neg hm, if_neg (fun z => hm (this.mp z))]
  rw [key σ vs, key τ vs, hl]
  by_cases hm : i ∈ vs
  · rw [if_pos hm, if_pos hm]
  · rw [if_neg hm, if_neg hm]; exact h i hm
theorem wipe_wipe (σ : L2.St) (vs : List Nat) : wipe (wipe σ vs) vs = wipe σ vs := by
  apply List.ext_getElem?
  intro i
  have key : ∀ (ρ : L2.St) (ws : List Nat), i ∈ ws → (wipe ρ ws)[i]? = (if i < ρ.length then some none else none) := by
    intro ρ ws
    induction ws with
    | nil => intro h; cases h
    | cons v vs ih =>
      intro hm
      unfold wipe
      by_cases hv : v = i
      · subst hv
        by_cases hi : v < ρ.length
        · rw [List.getElem?_set_self (by rw [wipe_length]; exact hi), if_pos hi]
        · rw [List.getElem?_eq_none (by rw [List.length_set, wipe_length]; omega), if_neg hi]
      · rw [List.getElem?_set_ne hv]
        rcases List.mem_cons.mp hm with z | z
        · exact absurd z.symm hv
        · exact ih z
  have key2 : ∀ (ρ : L2.St) (ws : List Nat), i ∉ ws → (wipe ρ ws)[i]? = ρ[i]? := by
    intro ρ ws
    induction ws with
    | nil => intro _; rfl
    | cons v vs ih =>
      intro hm
      unfold wipe
      rw [List.getElem?_set_ne (fun z => hm (by rw [z]; exact List.mem_cons_self ..))]
      exact ih fun z => hm (List.mem_cons_of_mem _ z)
  by_cases hm : i ∈ vs
  · rw [key _ _ hm, key _ _ hm, wipe_length]
  · rw [key2 _ _ hm]
def gLcL (f : D → Env → Option Env) (p : GB) (g : GE) (c : Env) : List D → Option (List D)
  | [] => some []
  | d :: ds => match f d c with
    | none => none
    | some c1 => match p c1 with
      | none => none
      | some false => gLcL f p g c ds
      | some true => match g c1 with
        | none => none
        | some y => match gLcL f p g c ds with
          | some ys => some (y :: ys)
          | none => none
def gLc (gi : GA) (f : D → Env → Option Env) (p : GB) (g : GE) (vs : List Nat) : GA := fun c => match gi c with
  | some ds => if ds.length ≤ sizeLine then gLcL f p g (wipeC c vs) ds else none
  | none => none
def gYes : GB := fun _ => some true
theorem vb_yes : VB K W0 tYes gYes := fun W σ c d Q k u s e q => by cases e; exact q W k (Gr.refl W)
theorem gLcL_len {f : D → Env → Option Env} {p : GB} {g : GE} {c : Env} : ∀ {ds ys : List D}, gLcL f p g c ds = some ys → ys.length ≤ ds.length
  | [], ys, h => by cases h; exact Nat.le_refl _
  | d :: ds, ys, h => by
    unfold gLcL at h
    split at h
    · cases h
    · split at h
      · cases h
      · have := gLcL_len h
        simp; omega
      · split at h
        · cases h
        · split at h
          · rename_i zs hz
            cases h
            have := gLcL_len hz
            simp; omega
          · cases h
theorem vn_lc {wi : TI} {gi : GA} {tg : TG} {vs js : List Nat} {f : D → Env → Option Env} {tt : TT} {p : GB} {te : TE} {g : GE}
    (hi : VI K W0 wi gi) (hg : VG K W0 tg js f) (hj : ∀ j ∈ js, j ∈ vs) (hp : VB K W0 tt p) (he : VT K W0 true te g) : VN K W0 (tLc wi tg tt te vs) (gLc gi f p g vs) := by
  intro W σ c ys Q k u s e q
  unfold gLc at e
  split at e
  · rename_i ds hds
    split at e
    · rename_i hz
      refine hi W σ c ds _ k u s hds fun W1 J k1 g1 y1 => fun Dd hD => ?_
      have s1 := sd_wipe (s.gr g1) vs
      refine ⟨fun i m H => m = ds.length - i ∧ i ≤ ds.length ∧ ∃ Wx accV accD rest, Wx.H = H ∧ WOk Wx ∧ Gr W1 ⟨fun a => if a = Dd then none else Wx.H a, Wx.G, Wx.F⟩ ∧ Wx.H Dd = some (.lst accV) ∧ Wx.G Dd = none ∧ Wx.F Dd = none ∧ SD K W0 Wx (wipe σ vs) (wipeC c vs) ∧ Up W0 Wx ∧
        accD.length ≤ i ∧ DenL K Wx.F accV accD ∧ gLcL f p g (wipeC c vs) (ds.drop i) = some rest ∧ ys = accD ++ rest, ?_, ?_⟩
      · refine ⟨_, rfl, Nat.zero_le _, ⟨upd W1.H Dd (.lst []), W1.G, W1.F⟩, [], [], ys, rfl, ⟨k1.fg, k1.gh.trans (same_upd hD), k1.gt⟩, ⟨fun a o h => ?_, Same.refl _, Same.refl _, fun _ _ _ => rfl, fun _ _ _ => rfl⟩, upd_same, k1.nG hD, k1.nF hD, ?_, ?_, Nat.le_refl _, .nil, by rw [List.drop_zero]; exact e, rfl⟩
        · show (if a = Dd then none else upd W1.H Dd _ a) = some o
          have ne : a ≠ Dd := ne_of_none h hD
          rw [if_neg ne, upd_ne ne]; exact h
        · exact s1.gr ⟨same_upd hD, Same.refl _, Same.refl _, fun _ _ _ => rfl, fun _ _ _ => rfl⟩
        · exact (u.gr g1).gr ⟨same_upd hD, Same.refl _, Same.refl _, fun _ _ _ => rfl, fun _ _ _ => rfl⟩
      · rintro i m H ⟨rfl, him, Wx, accV, accD, rest, rfl, kx, gx, hDx, gDx, fDx, sx, ux, hlen, hacc, hrest, hys⟩
        have fx : Same W1.F Wx.F := gx.f
        by_cases hlt : i < ds.length
        · right
          have hd : ds[i]? = some ds[i] := List.getElem?_eq_getElem hlt
          obtain ⟨go, yl⟩ := (y1 Wx i kx fx).2 _ hd
          rw [List.drop_eq_getElem_cons hlt] at hrest
          refine ⟨go, fun H' => ∃ Wy accV accD rest, Wy.H = H' ∧ WOk Wy ∧ Gr W1 ⟨fun a => if a = Dd then none else Wy.H a, Wy.G, Wy.F⟩ ∧ Wy.H Dd = some (.lst accV) ∧ Wy.G Dd = none ∧ Wy.F Dd = none ∧ SD K W0 Wy (wipe σ vs) (wipeC c vs) ∧ Up W0 Wy ∧
            accD.length ≤ i + 1 ∧ DenL K Wy.F accV accD ∧ gLcL f p g (wipeC c vs) (ds.drop (i + 1)) = some rest ∧ ys = accD ++ rest, fun H' h => ⟨ds.length - (i + 1), by omega, rfl, hlt, h⟩, fun x H' hy => ?_⟩
          obtain ⟨W2, k2, g2, rfl, d2⟩ := yl x H' hy
          have step : ∀ {Wa Wb : Wd}, Gr Wa Wb → Wa.H Dd = some (.lst accV) → Wa.G Dd = none → Wa.F Dd = none → Gr W1 ⟨fun a => if a = Dd then none else Wa.H a, Wa.G, Wa.F⟩ →
              Wb.H Dd = some (.lst accV) ∧ Wb.G Dd = none ∧ Wb.F Dd = none ∧ Gr W1 ⟨fun a => if a = Dd then none else Wb.H a, Wb.G, Wb.F⟩ := by
            intro Wa Wb gab h1 h2 h3 h4
            refine ⟨gab.h _ _ h1, (gab.go _ _ h1).trans h2, (gab.fo _ _ h1).trans h3, ⟨fun a o h => ?_, h4.g.trans gab.g, h4.f.trans gab.f, fun a o h => ?_, fun a o h => ?_⟩⟩
            · have z := h4.h a o h
              have z' : (if a = Dd then none else Wa.H a) = some o := z
              split at z'
              · cases z'
              · rename_i ne
                show (if a = Dd then none else Wb.H a) = some o
                rw [if_neg ne]; exact gab.h _ _ z'
            · have z : (if a = Dd then none else Wa.H a) = some o := h4.h a o h
              split at z
              · cases z
              · exact (gab.go _ _ z).trans (h4.go a o h)
            · have z : (if a = Dd then none else Wa.H a) = some o := h4.h a o h
              split at z
              · cases z
              · exact (gab.fo _ _ z).trans (h4.fo a o h)
          obtain ⟨hD2, gD2, fD2, gr2⟩ := step g2 hDx gDx fDx gx
          unfold gLcL at hrest
          cases e1 : f ds[i] (wipeC c vs) with
          | none => rw [e1] at hrest; cases hrest
          | some c1 =>
            simp only [e1] at hrest
            refine hg W2 _ _ c1 x _ _ k2 (sx.gr g2) d2 e1 fun σ' s' l' a' => ⟨?_, ?_⟩
            · rw [← wipe_wipe σ vs]
              exact wipe_eq l' fun j' hj' => a' j' fun z => hj' (hj j' z)
            cases e2 : p c1 with
            | none => rw [e2] at hrest; cases hrest
            | some b =>
              simp only [e2] at hrest
              refine hp W2 σ' c1 b _ k2 (ux.gr g2) s' e2 fun W3 k3 g3 => ?_
              obtain ⟨hD3, gD3, fD3, gr3⟩ := step g3 hD2 gD2 fD2 gr2
              cases b with
              | false =>
                rw [if_neg Bool.false_ne_true]
                exact ⟨W3, accV, accD, rest, rfl, k3, gr3, hD3, gD3, fD3, (sx.gr g2).gr g3, (ux.gr g2).gr g3, by omega, (hacc.up g2.f).up g3.f, hrest, hys⟩
              | true =>
                rw [if_pos rfl]
                cases e3 : g c1 with
                | none => simp only [e3] at hrest; cases hrest
                | some y =>
                  simp only [e3] at hrest
                  refine he W3 σ' c1 y _ k3 ((ux.gr g2).gr g3) (s'.gr g3) e3 fun W4 v k4 g4 d4 => ?_
                  obtain ⟨hD4, gD4, fD4, gr4⟩ := step g4 hD3 gD3 fD3 gr3
                  have hacc4 := ((hacc.up g2.f).up g3.f).up g4.f
                  cases e4 : gLcL f p g (wipeC c vs) (ds.drop (i + 1)) with
                  | none => simp only [e4] at hrest; cases hrest
                  | some r2 =>
                    simp only [e4] at hrest
                    cases hrest
                    have ne4 : ∀ a o, W4.G a = some o → a ≠ Dd := fun a o h z => by rw [z, gD4] at h; cases h
                    refine ⟨accV, hD4, by rw [hacc4.length]; omega, ⟨upd W4.H Dd (.lst (accV ++ [v])), W4.G, W4.F⟩, accV ++ [v], accD ++ [y], r2, rfl, ⟨k4.fg, fun a o h => ?_, k4.gt⟩, ?_, upd_same, gD4, fD4, ?_, ?_, by simp; omega, hacc4.append (.cons d4 .nil), rfl, by rw [hys]; simp⟩
                    · show upd W4.H Dd _ a = some o
                      rw [upd_ne (ne4 a o h)]; exact k4.gh a o h
                    · refine ⟨fun a o h => ?_, gr4.g, gr4.f, gr4.go, gr4.fo⟩
                      have z : (if a = Dd then none else W4.H a) = some o := gr4.h a o h
                      show (if a = Dd then none else upd W4.H Dd _ a) = some o
                      split at z
                      · cases z
                      · rename_i ne; rw [if_neg ne, upd_ne ne]; exact z
                    · have sx4 := ((sx.gr g2).gr g3).gr g4
                      have nW0 : W0.H Dd = none := (u.gr g1).h.free hD
                      refine ⟨sx4.len, fun j z w h1 h2 => ?_, sx4.one⟩
                      have okc := sx4.ok j z w h1 h2
                      have nh : ∀ l, Holds z w l → l ≠ Dd := fun l hh zz => by
                        obtain ⟨o, ho⟩ := hold_there s1 h1 h2 hh
                        rw [zz, hD] at ho; cases ho
                      cases w with
                      | none => trivial
                      | some cl =>
                        cases cl with
                        | fz d => exact okc
                        | own es =>
                          obtain ⟨l2, us, a1, a2, a3, a4, a5, a6⟩ := okc
                          exact ⟨l2, us, a1, (upd_ne (nh l2 ⟨a1, rfl⟩)).trans a2, a3, a4, a5, a6⟩
                        | exc C ns es =>
                          obtain ⟨us, a1, a2, a3, a4⟩ := okc
                          refine ⟨us, a1, (upd_ne ?_).trans a2, a3, a4⟩
                          exact ne_of a2 hD4 (by intro z; cases z)
                        | slf C ns es =>
                          obtain ⟨us, a1, a2, a3, a4, a5, a6, a7⟩ := okc
                          exact ⟨us, a1, (upd_ne (nh _ ⟨a1, rfl⟩)).trans a2, a3, a4, a5, a6, a7⟩
                    · have ux4 := ((ux.gr g2).gr g3).gr g4
                      have nW0 : W0.H Dd = none := (u.gr g1).h.free hD
                      refine ⟨fun a o h => ?_, ux4.f, ux4.fo⟩
                      show upd W4.H Dd _ a = some o
                      rw [upd_ne (ne_of_none h nW0)]; exact ux4.h a o h
        · left
          have hi' : i = ds.length := by omega
          subst hi'
          rw [List.drop_length] at hrest
          cases hrest
          rw [List.append_nil] at hys
          subst hys
          refine ⟨(y1 Wx _ kx fx).1 (Nat.le_refl _), ?_⟩
          have e5 : Wx.H = upd (fun a => if a = Dd then none else Wx.H a) Dd (.lst accV) := by
            funext a
            unfold upd
            by_cases ha : a = Dd
            · rw [if_pos ha, ha]; exact hDx
            · rw [if_neg ha]; exact (if_neg ha).symm
          rw [e5]
          refine q ⟨fun a => if a = Dd then none else Wx.H a, Wx.G, Wx.F⟩ Dd accV ⟨kx.fg, fun a o h => ?_, kx.gt⟩ (g1.trans gx) (if_pos rfl) hacc
          show (if a = Dd then none else Wx.H a) = some o
          rw [if_neg (fun z => by rw [z, gDx] at h; cases h)]
          exact kx.gh a o h
    · cases e
  · cases e

/-! ### defs -/
inductive Res where
  | val (d : D)
  | exn (C : Addr) (ns : List Str) (ds : List D)
/-- what a def promises: m of its arguments -/
def spP (K : PySem.W.Frag) (m : List D → Option Res) : Sp := fun vs H Q E => ∃ (F : Hp) (ds : List D) (r : Res), Same F H ∧ DenL K F vs ds ∧ m ds = some r ∧
  match r with
  | .val d => ∀ H' F' v, Same H H' → Same F F' → Same F' H' → (∀ a o, H a = some o → F' a = F a) → Den K F' v d → Q v H'
  | .exn C ns es => ∀ H' F' dx fs, Same H H' → Same F F' → Same F' H' → (∀ a o, H a = some o → F' a = F a) → H dx = none → H' dx = some (.xd fs) → fs.map (·.1) = ns → DenL K F' (fs.map (·.2)) es → E (.ref C) (some dx) H'
/-- the def of n parameters and nn names whose body does g -/
def outRes : Option Out → Option Res
  | some (.nx _) => some (.val .non)
  | some (.ret d) => some (.val d)
  | some (.ex C ns ds) => some (.exn C ns ds)
  | _ => none
def envOf (nn : Nat) (ds : List D) : Env := ds.map (fun d => some (.fz d)) ++ List.replicate (nn - ds.length) none
def mOf (n nn : Nat) (g : GS) : List D → Option Res := fun ds => if ds.length = n then outRes (g (envOf nn ds)) else none
theorem mOf_len {n nn : Nat} {g : GS} {ds : List D} {r : Res} (h : mOf n nn g ds = some r) : ds.length = n ∧ outRes (g (envOf nn ds)) = some r := by
  unfold mOf at h
  split at h
  · exact ⟨by assumption, h⟩
  · cases h
theorem spP_len {m : List D → Option Res} {n : Nat} (hm : ∀ ds r, m ds = some r → ds.length = n) : ∀ vs H Q E, spP K m vs H Q E → vs.length = n := by
  rintro vs H Q E' ⟨F, ds, r, hF, hd, e, _⟩
  rw [hd.length]
  exact hm ds r e
theorem sd_start {W : Wd} {N : List Str} {vs : List V} {ds : List D} {W0 : Wd} (h : DenL K W.F vs ds) : SD K W0 W (L2.start N vs) (envOf N.length ds) := by
  have hl := h.length
  refine ⟨by simp [L2.start, envOf, hl], fun i x y h1 h2 => ?_, fun i j x y z w l h1 h2 h3 h4 h5 h6 => ?_⟩
  · by_cases hi : i < ds.length
    · have e1 : (envOf N.length ds)[i]? = some (some (.fz ds[i])) := by
        unfold envOf
        rw [List.getElem?_append_left (by simpa using hi)]
        simp [hi]
      have e2 : (L2.start N vs)[i]? = some (some vs[i]) := by
        unfold L2.start
        rw [List.getElem?_append_left (by simpa [hl] using hi)]
        simp [hl, hi]
      rw [e1] at h2; cases h2
      rw [e2] at h1; cases h1
      obtain ⟨v, hv, dv⟩ := h.get (List.getElem?_eq_getElem hi)
      have : vs[i]? = some vs[i] := List.getElem?_eq_getElem (by omega)
      rw [this] at hv; cases hv
      exact ⟨_, rfl, dv⟩
    · have : y = none := by
        unfold envOf at h2
        rw [List.getElem?_append_right (by simpa using Nat.le_of_not_lt hi)] at h2
        rw [List.getElem?_replicate] at h2
        split at h2
        · exact (Option.some.inj h2).symm
        · cases h2
      subst this
      trivial
  · have nh : ∀ (i : Nat) y x, (envOf N.length ds)[i]? = some y → Holds x y l → False := by
      intro i y x h2 h5
      by_cases hi : i < ds.length
      · have e1 : (envOf N.length ds)[i]? = some (some (.fz ds[i])) := by
          unfold envOf
          rw [List.getElem?_append_left (by simpa using hi)]
          simp [hi]
        rw [e1] at h2; cases h2
        exact noHold_fz h5
      · unfold envOf at h2
        rw [List.getElem?_append_right (by simpa using Nat.le_of_not_lt hi)] at h2
        rw [List.getElem?_replicate] at h2
        split at h2
        · cases h2; exact noHold_none h5
        · cases h2
    exact (nh i y x h2 h5).elim
/-- THE RULE for a def's body -/
theorem run_def {N : List Str} {n nn : Nat} {ts : TS} {g : GS} {vs : List V} {H : Hp} {Q : VK} (hN : N.length = nn) (hv : ∀ W0, VS K W0 E ts g) (h : spP K (mOf n nn g) vs H Q E) : ts { nx := fun _ H' => Q .non H', rt := Q } (L2.start N vs) H := by
  obtain ⟨F, ds, r, hF, hd, e, q⟩ := h
  obtain ⟨hl, e⟩ := mOf_len e
  subst hN
  refine hv ⟨H, F, F⟩ ⟨H, F, F⟩ (L2.start N vs) (envOf N.length ds) _ ⟨Same.refl _, hF, fun _ _ e _ => e⟩ ⟨Same.refl _, Same.refl _, fun _ _ _ => rfl⟩ (sd_start hd) ?_
  cases eg : g (envOf N.length ds) with
  | none => rw [eg] at e; cases e
  | some o =>
    rw [eg] at e
    cases o with
    | nx c => cases e; exact fun W σ k u f s => q W.H W.F .non u.h u.f k.fh u.fo .non
    | ret d => cases e; exact fun W v k u f hd => q W.H W.F v u.h u.f k.fh u.fo hd
    | bk c => cases e
    | ct c => cases e
    | ex C ns es => cases e; exact fun W dx fs k u f h1 h2 h3 h4 => q W.H W.F dx fs u.h u.f k.fh u.fo h2 h1 h3 h4
/-- behind a call: the callee's settled heap F' -/
def Wd.aft (W : Wd) (b : Bool) (H' F' : Hp) : Wd := ⟨H', fun a => match W.H a with
  | some _ => W.G a
  | none => F' a, fun a => match W.H a with
  | some _ => W.F a
  | none => F' a⟩
theorem aft_ok {W : Wd} (k : WOk W) {b : Bool} {H' F' : Hp} (h : Same W.H H') (f : Same (W.at b) F') (fh : Same F' H') (fo : ∀ a o, W.H a = some o → F' a = W.at b a) :
    WOk (W.aft b H' F') ∧ Gr W (W.aft b H' F') ∧ Same F' ((W.aft b H' F').at b) := by
  have g1 : ∀ a o, W.H a = some o → (W.aft b H' F').G a = W.G a := fun a o e => by
    show (match W.H a with | some _ => W.G a | none => F' a) = _
    rw [e]
  have f1 : ∀ a o, W.H a = some o → (W.aft b H' F').F a = W.F a := fun a o e => by
    show (match W.H a with | some _ => W.F a | none => F' a) = _
    rw [e]
  have g2 : ∀ a, W.H a = none → (W.aft b H' F').G a = F' a := fun a e => by
    show (match W.H a with | some _ => W.G a | none => F' a) = _
    rw [e]
  have f2 : ∀ a, W.H a = none → (W.aft b H' F').F a = F' a := fun a e => by
    show (match W.H a with | some _ => W.F a | none => F' a) = _
    rw [e]
  refine ⟨⟨fun a o e => ?_, fun a o e => ?_, fun a xs e ht => ?_⟩, ⟨h, fun a o e => ?_, fun a o e => ?_, g1, f1⟩, fun a o e => ?_⟩
  · cases c : W.H a with
    | some u => rw [f1 a u c] at e; rw [g1 a u c]; exact k.fg a o e
    | none => rw [f2 a c] at e; rw [g2 a c]; exact e
  · cases c : W.H a with
    | some u => rw [g1 a u c] at e; exact h a o (k.gh a o e)
    | none => rw [g2 a c] at e; exact fh a o e
  · cases c : W.H a with
    | some u => rw [g1 a u c] at e; rw [f1 a u c]; exact k.gt a xs e ht
    | none => rw [g2 a c] at e; rw [f2 a c]; exact e
  · rw [g1 a o (k.gh a o e)]; exact e
  · rw [f1 a o (k.fh a o e)]; exact e
  · cases c : W.H a with
    | some u =>
      rw [fo a u c] at e
      cases b
      · show (W.aft false H' F').G a = some o
        rw [g1 a u c]; exact e
      · show (W.aft true H' F').F a = some o
        rw [f1 a u c]; exact e
    | none =>
      cases b
      · show (W.aft false H' F').G a = some o
        rw [g2 a c]; exact e
      · show (W.aft true H' F').F a = some o
        rw [f2 a c]; exact e
def gFn (m : List D → Option Res) (gs : GA) : GE := fun c => match gs c with
  | some ds => match m ds with
    | some (.val d) => some d
    | _ => none
  | none => none
theorem vt_call {b : Bool} {m : List D → Option Res} {ts : TA} {gs : GA} {E' : XK} (h : VArg K W0 b ts gs) : VT K W0 b (tCall (spP K m) [] E' ts) (gFn m gs) := by
  intro W σ c d Q k u s e q
  unfold gFn at e
  split at e
  · rename_i ds hds
    split at e
    · rename_i d' hm
      cases e
      refine h W σ c ds _ k u s hds fun W1 vs k1 g1 d1 => ?_
      rw [List.append_nil]
      refine ⟨W1.at b, ds, .val d, k1.atH b, d1, hm, fun H' F' v a1 a2 a3 a4 a5 => ?_⟩
      obtain ⟨k2, g2, f2⟩ := aft_ok k1 a1 a2 a3 a4
      exact q (W1.aft b H' F') v k2 (g1.trans g2) (a5.up f2)
    · cases e
  · cases e
/-- a call that may raise, as a statement -/
def gCallX (m : List D → Option Res) (gs : GA) (nxt : D → GS) : GS := fun c => match gs c with
  | some ds => match m ds with
    | some (.val d) => nxt d c
    | some (.exn C ns es) => some (.ex C ns es)
    | none => none
  | none => none
theorem vs_exprX {m : List D → Option Res} {ts : TA} {gs : GA} (h : VArg K W0 true ts gs) : VS K W0 E (tDrop (tCall (spP K m) [] E ts)) (gCallX m gs fun _ c => some (.nx c)) := by
  intro W σ c D k u s q
  unfold gCallX at q
  cases e : gs c with
  | none => rw [e] at q; exact q.elim
  | some ds =>
    simp only [e] at q
    refine h W σ c ds _ k u s e fun W1 vs k1 g1 d1 => ?_
    rw [List.append_nil]
    cases e2 : m ds with
    | none => simp only [e2] at q; exact q.elim
    | some r =>
      cases r with
      | val d =>
        simp only [e2] at q
        refine ⟨W1.F, ds, .val d, k1.fh, d1, e2, fun H' F' v a1 a2 a3 a4 a5 => ?_⟩
        obtain ⟨k2, g2, f2⟩ := aft_ok (b := true) k1 a1 a2 a3 a4
        exact q (W1.aft true H' F') σ k2 ((u.gr g1).gr g2) (g1.f.trans g2.f) ((s.gr g1).gr g2)
      | exn C ns es =>
        simp only [e2] at q
        refine ⟨W1.F, ds, .exn C ns es, k1.fh, d1, e2, fun H' F' dx fs a1 a2 a3 a4 a5 a6 a7 a8 => ?_⟩
        obtain ⟨k2, g2, f2⟩ := aft_ok (b := true) k1 a1 a2 a3 a4
        exact q (W1.aft true H' F') dx fs k2 ((u.gr g1).gr g2) (g1.f.trans g2.f) a6 ((u.gr g1).h.free a5) a7 (a8.up f2)
theorem vs_asgX {i : Nat} {m : List D → Option Res} {ts : TA} {gs : GA} (h : VArg K W0 true ts gs) : VS K W0 E (tAsg (tCall (spP K m) [] E ts) (gName i)) (gCallX m gs fun d c => some (.nx (c.set i (some (.fz d))))) := by
  intro W σ c D k u s q
  unfold gCallX at q
  cases e : gs c with
  | none => rw [e] at q; exact q.elim
  | some ds =>
    simp only [e] at q
    refine h W σ c ds _ k u s e fun W1 vs k1 g1 d1 => ?_
    rw [List.append_nil]
    cases e2 : m ds with
    | none => simp only [e2] at q; exact q.elim
    | some r =>
      cases r with
      | val d =>
        simp only [e2] at q
        refine ⟨W1.F, ds, .val d, k1.fh, d1, e2, fun H' F' v a1 a2 a3 a4 a5 => ?_⟩
        obtain ⟨k2, g2, f2⟩ := aft_ok (b := true) k1 a1 a2 a3 a4
        exact q (W1.aft true H' F') _ k2 ((u.gr g1).gr g2) (g1.f.trans g2.f) (sd_fz ((s.gr g1).gr g2) i (a5.up f2))
      | exn C ns es =>
        simp only [e2] at q
        refine ⟨W1.F, ds, .exn C ns es, k1.fh, d1, e2, fun H' F' dx fs a1 a2 a3 a4 a5 a6 a7 a8 => ?_⟩
        obtain ⟨k2, g2, f2⟩ := aft_ok (b := true) k1 a1 a2 a3 a4
        exact q (W1.aft true H' F') dx fs k2 ((u.gr g1).gr g2) (g1.f.trans g2.f) a6 ((u.gr g1).h.free a5) a7 (a8.up f2)

/-! ### instances -/
def lookD : List Str → List D → Str → Option D
  | n :: ns, d :: ds, f => if n = f then some d else lookD ns ds f
  | _, _, _ => none
theorem look_den {H : Hp} {f : Str} {d : D} : ∀ {ns : List Str} {ds : List D} {fs : List (Str × V)}, fs.map (·.1) = ns → DenL K H (fs.map (·.2)) ds → lookD ns ds f = some d → ∃ v, fs.lookup f = some v ∧ Den K H v d
  | [], _, fs, h1, h2, h3 => by simp [lookD] at h3
  | n :: ns, [], fs, h1, h2, h3 => by simp [lookD] at h3
  | n :: ns, e :: ds, [], h1, h2, h3 => by cases h1
  | n :: ns, e :: ds, (m, v) :: fs, h1, h2, h3 => by
    simp only [List.map_cons, List.cons.injEq] at h1
    obtain ⟨rfl, h1⟩ := h1
    cases h2 with
    | cons h4 h5 =>
      unfold lookD at h3
      by_cases hm : m = f
      · subst hm
        rw [if_pos rfl] at h3
        cases h3
        exact ⟨v, by simp [List.lookup], h4⟩
      · rw [if_neg hm] at h3
        obtain ⟨w, h6, h7⟩ := look_den h1 h5 h3
        have hb : (f == m) = false := by simpa using Ne.symm hm
        exact ⟨w, by simp [List.lookup, hb, h6], h7⟩
/-- o.f, the class of o at C -/
def gFld (C : Addr) (f : Str) (g : GE) : GE := fun c => match g c with
  | some (.ins C' ns ds) => if C' = C then lookD ns ds f else none
  | _ => none
theorem vt_fld {b : Bool} {C : Addr} {te : TE} {g : GE} {f : Str} (hc : Cls K C) (hn : NoAttr K C f) (h : VT K W0 b te g) : VT K W0 b (tFld K te f) (gFld C f g) := by
  intro W σ c d Q k u s e q
  unfold gFld at e
  split at e
  · rename_i C' ns ds hg
    split at e
    · rename_i hC
      subst hC
      refine h W σ c _ _ k u s hg fun W1 v k1 g1 d1 => ?_
      cases d1 with
      | ins h1 h2 h3 =>
        obtain ⟨w, h4, h5⟩ := look_den h2 h3 e
        exact ⟨_, _, _, _, w, rfl, k1.atH b _ _ h1, hc, hn, h4, q W1 w k1 g1 h5⟩
    · cases e
  · cases e
/-- __init__ of the class at C: the attributes that it leaves -/
def spI (K : PySem.W.Frag) (C : Addr) (m : List D → Option (List Str × List D)) : Sp := fun vs H Q _ => ∃ (x dx : Addr) (us : List V) (F : Hp) (ds : List D) (ns : List Str) (es : List D), vs = .ref x :: us ∧ H x = some (.ins C dx []) ∧ F x = none ∧ Same F H ∧ DenL K F us ds ∧ m ds = some (ns, es) ∧
  ∀ H' F' fs, (∀ a o, a ≠ x → H a = some o → H' a = some o) → Same F F' → F' x = none → Same F' H' → (∀ a o, H a = some o → F' a = F a) → H' x = some (.ins C dx fs) → fs.map (·.1) = ns → DenL K F' (fs.map (·.2)) es → Q .non H'
def gMake (C : Addr) (m : List D → Option (List Str × List D)) (gs : GA) : GE := fun c => match gs c with
  | some ds => match m ds with
    | some (ns, es) => some (.ins C ns es)
    | none => none
  | none => none
theorem vt_make {b : Bool} {C : Addr} {m : List D → Option (List Str × List D)} {ts : TA} {gs : GA} {E' : XK} (h : VArg K W0 b ts gs) : VT K W0 b (tMake C (spI K C m) [] E' ts) (gMake C m gs) := by
  intro W σ c d Q k u s e q
  unfold gMake at e
  split at e
  · rename_i ds hds
    split at e
    · rename_i ns es hm
      cases e
      refine h W σ c ds _ k u s hds fun W1 vs k1 g1 d1 => fun x dx hx hdx hne => ?_
      rw [List.append_nil]
      have Fx : (W1.at b) x = none := (k1.atH b).free hx
      have nex : ∀ a o, (W1.at b) a = some o → a ≠ x := fun a o z => ne_of_none z Fx
      have nedx : ∀ a o, (W1.at b) a = some o → a ≠ dx := fun a o z => ne_of_none z ((k1.atH b).free hdx)
      refine ⟨x, dx, vs, W1.at b, ds, ns, es, rfl, upd_same, Fx, fun a o z => ?_, d1, hm, fun H' F' fs a1 a2 a3 a4 a5 a6 a7 a8 => ⟨rfl, ?_⟩⟩
      · rw [upd_ne (nex a o z), upd_ne (nedx a o z)]; exact k1.atH b a o z
      · have hH : Same W1.H H' := fun a o z => a1 a o (ne_of_none z hx) (by rw [upd_ne (ne_of_none z hx), upd_ne (ne_of_none z hdx)]; exact z)
        have F2 : Same (W1.at b) (upd F' x (.ins C dx fs)) := a2.trans (same_upd a3)
        have F3 : Same (upd F' x (.ins C dx fs)) H' := fun a o z => by
          by_cases ha : a = x
          · subst ha; rw [upd_same] at z; cases z; exact a6
          · rw [upd_ne ha] at z; exact a4 a o z
        have F4 : ∀ a o, W1.H a = some o → (upd F' x (.ins C dx fs)) a = W1.at b a := fun a o z => by
          have n1 := ne_of_none z hx
          rw [upd_ne n1]
          exact a5 a o (by rw [upd_ne n1, upd_ne (ne_of_none z hdx)]; exact z)
        obtain ⟨k2, g2, f2⟩ := aft_ok (b := b) k1 hH F2 F3 F4
        exact q (W1.aft b H' (upd F' x (.ins C dx fs))) _ k2 (g1.trans g2) (Den.up (.ins upd_same a7 (a8.up (same_upd a3))) f2)
    · cases e
  · cases e
/-- self.f = e in __init__, f a new attribute -/
def gFldS (C : Addr) (i : Nat) (f : Str) (g : GE) : GS := fun c => match c[i]? with
  | some (some (.slf C' ns ds)) => match g c with
    | some d => if C' = C ∧ f ∉ ns ∧ ns.length < 1000 then some (.nx (c.set i (some (.slf C' (ns ++ [f]) (ds ++ [d]))))) else none
    | none => none
  | _ => none
theorem putF_new {f : Str} {v : V} : ∀ {fs : List (Str × V)}, f ∉ fs.map (·.1) → putF f v fs = fs ++ [(f, v)]
  | [], _ => rfl
  | (g, x) :: r, h => by
    unfold putF
    rw [List.map_cons, List.mem_cons, not_or] at h
    rw [if_neg (Ne.symm h.1), putF_new h.2]
    rfl
theorem vs_fldS {i : Nat} {te : TE} {g : GE} {f : Str} {C : Addr} (hc : Cls K C) (hn : NoAttr K C f) (h : VT K W0 true te g) :
    VS K W0 E (sFld K (tVar i) te f) (gFldS C i f g) := by
  intro W σ c D k u s q
  unfold gFldS at q
  split at q
  · rename_i C' ns' ds' hc'
    cases e : g c with
    | none => simp only [e] at q; exact q.elim
    | some d =>
      simp only [e] at q
      by_cases hf : C' = C ∧ f ∉ ns' ∧ ns'.length < 1000
      · rw [if_pos hf] at q
        obtain ⟨rfl, hf1, hf2⟩ := hf
        refine h W σ c d _ k u s e fun W1 v k1 g1 d1 => ?_
        have s1 := s.gr g1
        obtain ⟨x, hx, fs, rfl, e1, e2, e3, e4, e5, e6⟩ := s1.at hc'
        subst e5
        refine ⟨_, hx, W0.sa, _, W0.sd, fs, rfl, e1, hc, hn, by rw [List.length_map] at hf2; exact hf2, ?_⟩
        rw [putF_new hf1]
        have neG : ∀ b o, W1.G b = some o → b ≠ W0.sa := fun b o z w => by rw [w, e2] at z; cases z
        refine q ⟨upd W1.H W0.sa (.ins _ W0.sd (fs ++ [(f, v)])), W1.G, W1.F⟩ σ ⟨k1.fg, fun b o z => ?_, k1.gt⟩ ⟨fun b o z => ?_, (u.gr g1).f, (u.gr g1).fo⟩ g1.f ⟨by simp [s1.len], fun j z w h1 h2 => ?_, fun j m z w z' w' l h1 h2 h3 h4 h5 h6 => ?_⟩
        · show upd W1.H W0.sa _ b = some o
          rw [upd_ne (neG b o z)]; exact k1.gh b o z
        · show upd W1.H W0.sa _ b = some o
          rw [upd_ne (fun w => by rw [w, e4] at z; cases z)]; exact (u.gr g1).h b o z
        · by_cases hij : i = j
          · subst hij
            rw [List.getElem?_set_self (List.getElem?_eq_some_iff.mp hc').1] at h2
            cases h2
            rw [hx] at h1; cases h1
            exact ⟨fs ++ [(f, v)], rfl, upd_same, e2, e3, e4, by simp, by rw [List.map_append]; exact e6.append (.cons d1 .nil)⟩
          · rw [List.getElem?_set_ne hij] at h2
            have okc := s1.ok j z w h1 h2
            have nl : ∀ l, Holds z w l → l ≠ W0.sa := fun l hh zz => hij (s1.one i j _ _ _ _ W0.sa hx hc' h1 h2 ⟨rfl, rfl⟩ (zz ▸ hh))
            cases w with
            | none => trivial
            | some cl =>
              cases cl with
              | fz d => exact okc
              | own es =>
                obtain ⟨l2, us, a1, a2, a3, a4, a5, a6⟩ := okc
                exact ⟨l2, us, a1, (upd_ne (nl l2 ⟨a1, rfl⟩)).trans a2, a3, a4, a5, a6⟩
              | exc C ns es =>
                obtain ⟨us, a1, a2, a3, a4⟩ := okc
                exact ⟨us, a1, (upd_ne (ne_of a2 e1 (by intro z; cases z))).trans a2, a3, a4⟩
              | slf C ns es =>
                obtain ⟨us, a1, a2, a3, a4, a5, a6, a7⟩ := okc
                exact ⟨us, a1, (upd_ne (nl _ ⟨a1, rfl⟩)).trans a2, a3, a4, a5, a6, a7⟩
        · have back : ∀ (j : Nat) x y, σ[j]? = some x → (c.set i (some (.slf C' (fs.map (·.1) ++ [f]) (ds' ++ [d]))))[j]? = some y → Holds x y l → ∃ y', c[j]? = some y' ∧ Holds x y' l := by
            intro j x y q1 q2 q3
            by_cases hij : i = j
            · subst hij
              rw [List.getElem?_set_self (List.getElem?_eq_some_iff.mp hc').1] at q2
              cases q2
              exact ⟨_, hc', q3.1, rfl⟩
            · rw [List.getElem?_set_ne hij] at q2
              exact ⟨_, q2, q3⟩
          obtain ⟨y1, a1, b1⟩ := back j z w h1 h2 h5
          obtain ⟨y2, a2, b2⟩ := back m z' w' h3 h4 h6
          exact s1.one j m _ _ _ _ l h1 a1 h3 a2 b1 b2
      · rw [if_neg hf] at q; exact q.elim
  · exact q.elim
theorem spI_len {C : Addr} {m : List D → Option (List Str × List D)} {n : Nat} (hm : ∀ ds r, m ds = some r → ds.length = n) : ∀ vs H Q E, spI K C m vs H Q E → vs.length = n + 1 := by
  rintro vs H Q E' ⟨x, dx, us, F, ds, ns, es, rfl, _, _, _, hd, e, _⟩
  rw [List.length_cons, hd.length, hm ds _ e]
def envI (C : Addr) (nn : Nat) (ds : List D) : Env := some (.slf C [] []) :: (ds.map (fun d => some (.fz d)) ++ List.replicate (nn - 1 - ds.length) none)
/-- what an __init__ of n parameters beside self and nn names leaves -/
def iOf (C : Addr) (n nn : Nat) (g : GS) : List D → Option (List Str × List D) := fun ds => if ds.length = n then match g (envI C nn ds) with
  | some (Out.nx c) => match (c[0]? : Option (Option Cell)) with
    | some (some (Cell.slf C' ns es)) => if C' = C then some (ns, es) else none
    | _ => none
  | _ => none
  else none
theorem iOf_len {C : Addr} {n nn : Nat} {g : GS} {ds : List D} {r : List Str × List D} (h : iOf C n nn g ds = some r) : ds.length = n := by
  unfold iOf at h
  split at h
  · assumption
  · cases h
theorem iOf_some {C : Addr} {n nn : Nat} {g : GS} {ds : List D} {ns : List Str} {es : List D} (h : iOf C n nn g ds = some (ns, es)) : ∃ c, g (envI C nn ds) = some (.nx c) ∧ c[0]? = some (some (.slf C ns es)) := by
  unfold iOf at h
  split at h
  · split at h
    · rename_i c hc
      split at h
      · rename_i C' ns' es' h0
        split at h
        · rename_i e; cases h; subst e; exact ⟨c, hc, h0⟩
        · cases h
      · cases h
    · cases h
  · cases h
/-- THE RULE for an __init__ -/
theorem run_init {N : List Str} {C : Addr} {nn : Nat} {ts : TS} {g : GS} {n : Nat} {vs : List V} {H : Hp} {Q : VK} {E' : XK} (hN : N.length = nn) (hv : ∀ W0, VS K W0 E ts g)
    (h : spI K C (iOf C n nn g) vs H Q E') : ts { nx := fun _ H' => Q .non H', rt := Q } (L2.start N vs) H := by
  obtain ⟨x, dx, us, F, ds, ns, es, rfl, hx, hFx, hF, hd, e, q⟩ := h
  obtain ⟨cE, hcE, hc0⟩ := iOf_some e
  subst hN
  have hlen := hd.length
  have neF : ∀ a o, F a = some o → a ≠ x := fun a o z w => by rw [w, hFx] at z; cases z
  let W0 : Wd := ⟨fun a => if a = x then none else H a, fun b => if b = 2 then some (.own x) else if b = 3 then some (.own dx) else none, F⟩
  have u0 : Up W0 ⟨H, F, F⟩ := ⟨fun a o z => by
    have z' : (if a = x then none else H a) = some o := z
    split at z'
    · cases z'
    · exact z', Same.refl _, fun _ _ _ => rfl⟩
  have s0 : SD K W0 ⟨H, F, F⟩ (L2.start N (V.ref x :: us)) (envI C N.length ds) := by
    have est : L2.start N (V.ref x :: us) = some (V.ref x) :: (us.map some ++ List.replicate (N.length - 1 - us.length) none) := by
      unfold L2.start
      rw [List.map_cons, List.cons_append, List.length_cons]
      congr 3
      omega
    have hok : ∀ (i : Nat) y z, (us.map some ++ List.replicate (N.length - 1 - us.length) none)[i]? = some y → (ds.map (fun d => some (Cell.fz d)) ++ List.replicate (N.length - 1 - ds.length) none)[i]? = some z → CellOk K W0 ⟨H, F, F⟩ y z ∧ ∀ l, ¬ Holds y z l := by
      intro i y z h1 h2
      by_cases hi : i < ds.length
      · rw [List.getElem?_append_left (by simpa using hi)] at h2
        rw [List.getElem?_append_left (by simpa [hlen] using hi)] at h1
        simp [hi] at h2
        simp [hlen, hi] at h1
        subst h1 h2
        obtain ⟨v, hv', dv⟩ := hd.get (List.getElem?_eq_getElem hi)
        have : us[i]? = some us[i] := List.getElem?_eq_getElem (by omega)
        rw [this] at hv'; cases hv'
        exact ⟨⟨_, rfl, dv⟩, fun l => noHold_fz⟩
      · rw [List.getElem?_append_right (by simpa using Nat.le_of_not_lt hi), List.getElem?_replicate] at h2
        split at h2
        · cases h2; exact ⟨trivial, fun l => noHold_none⟩
        · cases h2
    rw [est]
    refine ⟨by simp [hlen, envI], fun i y z h1 h2 => ?_, fun i j y z y' z' l h1 h2 h3 h4 h5 h6 => ?_⟩
    · cases i with
      | zero =>
        cases h1; cases h2
        exact ⟨[], rfl, hx, hFx, hFx, if_pos rfl, rfl, .nil⟩
      | succ i => exact (hok i y z h1 h2).1
    · cases i with
      | zero =>
        cases j with
        | zero => rfl
        | succ j => exact ((hok j y' z' h3 h4).2 l h6).elim
      | succ i => exact ((hok i y z h1 h2).2 l h5).elim
  refine hv W0 ⟨H, F, F⟩ _ _ _ ⟨Same.refl _, hF, fun _ _ e _ => e⟩ u0 s0 ?_
  rw [hcE]
  intro W σ k u f s
  obtain ⟨y, hy, fs, rfl, e1, e2, e3, e4, e5, e6⟩ := s.at hc0
  replace e1 : W.H x = some (.ins C dx fs) := e1
  replace e3 : W.F x = none := e3
  refine q W.H W.F fs (fun a o ha ho => u.h a o ?_) u.f e3 k.fh (fun a o ho => ?_) e1 e5 e6
  · show (if a = x then none else H a) = some o
    rw [if_neg ha]; exact ho
  · by_cases ha : a = x
    · rw [ha, e3, hFx]
    · exact u.fo a o (by show (if a = x then none else H a) = some o; rw [if_neg ha]; exact ho)
end
end VL
end

section
/-! VE: enumerate of a list or a tuple, list(range), own exceptions raised and caught. -/
namespace PySem
open Sem (wp)
open AutoSeq1 (wpAny_loadPart')
theorem vl_meets_enumerate {v : Value} {o : Obj} {H : Heap → Prop} (B : Begins v o H) :
    Meets (Builtin.«enumerate.__new__» ⟨[.type "enumerate", v], []⟩) (fun _ R s => H s.heap ∧
      R (.ok (.ret (.ref (s.heap.push o).objs.size))) { s with heap := (s.heap.push o).push { cls := .type "enumerate", data := .fields #[.none, .bool false, .ref s.heap.objs.size, rawInt 0, .none, .none] } }) :=
  .of_wp fun prog w A R s h => by
    obtain ⟨hp, g, d, tk, os⟩ := s; obtain ⟨h1, h⟩ := h
    have hsub := sub_enumerate
    have q1 : ∀ {A' : Around} {E : Value → Shared → Prop} {Q : Value → Shared → Prop}, Q (.ref hp.objs.size) ⟨hp.push o, g, d, tk, os⟩ → wpAny (model prog w) A' (pyIter v) Q E ⟨hp, g, d, tk, os⟩ :=
      fun q => B.iter prog w _ _ ⟨hp, g, d, tk, os⟩ _ h1 q
    wp_walk using q1
    refine wpAny_stack_any fun st => wpAny_pure ?_
    split
    · rename_i c _ _ _ _ _
      cases (c == Value.type "enumerate")
      · wp_walk using q1
        exact ⟨_, rfl, h⟩
      · wp_walk using q1
        exact ⟨_, rfl, h⟩
    · wp_walk using q1
      exact ⟨_, rfl, h⟩
theorem vl_call_enumerate {prog : Program} {w : World} {A : Around} {E : Value → Shared → Prop} {s : Shared} {v : Value} {o : Obj} {H : Heap → Prop} {Q : Value → Shared → Prop} (B : Begins v o H) (h1 : H s.heap)
    (h : ∀ h', IsEnum h' (s.heap.objs.size + 1) s.heap.objs.size 0 .none → h'.get? s.heap.objs.size = some o → h'.objs.size = s.heap.objs.size + 2 →
      (∀ b o, s.heap.get? b = some o → h'.get? b = some o) → Q (.ref (s.heap.objs.size + 1)) { s with heap := h' }) :
    wpAny (model prog w) A (call (.type "enumerate") [v]) Q E s := by
  refine callType_new F.called_enumerate (by decide) (F.typeCall_enumerate_1 _) (F.newCall_enumerate_1 _) (fun obj => F.args_object_init_2 obj _) F.entry_enumerate_new
    (vl_meets_enumerate B) ⟨h1, ?_⟩
  have hz : (s.heap.push o).objs.size = s.heap.objs.size + 1 := Heap.size_push ..
  show _ ∧ _
  rw [hz]
  have he : IsEnum ((s.heap.push o).push { cls := .type "enumerate", data := .fields #[.none, .bool false, .ref s.heap.objs.size, rawInt 0, .none, .none] }) (s.heap.objs.size + 1) s.heap.objs.size 0 .none := by
    have := Heap.get?_push_size (s.heap.push o) (o := { cls := .type "enumerate", data := .fields #[.none, .bool false, .ref s.heap.objs.size, rawInt 0, .none, .none] }) rfl
    rw [hz] at this; exact this
  refine ⟨⟨_, he, rfl⟩, h _ he (Heap.get?_push_of_some _ (Heap.get?_push_size _ B.free)) (by rw [Heap.size_push, hz]) fun b o x => Heap.get?_push_of_some _ (Heap.get?_push_of_some _ x)⟩
theorem vl_enumT_end {prog : Program} {w : World} {A : Around} {E : Value → Shared → Prop} {s : Shared} {e it l : Addr} {i : Nat} {items : Array Value} {old : Value} {Q : Option Value → Shared → Prop} (hh : A.handled = none)
    (he : IsEnum s.heap e it i old) (hit : s.heap.IsTupleIter it l i) (hl : s.heap.IsTuple l items) (hx : items[i]? = none)
    (hQ : ∀ h', Heap.ExtBut it s.heap h' → Q none { s with heap := h' }) : wpAny (model prog w) A (pyNext (.ref e)) Q E s := by
  have hT : s.TypeIs (.ref e) "enumerate" := ⟨_, he, rfl⟩
  unfold pyNext
  refine wpAny_bind (wpAny_attempt (wpAny_callSpecial?_slot (name := Str.ofString "__next__") hT F.slot_enumerate_next
    (wpAny_call_entry F.slot_enumerate_next hT F.entry_enumerate_next ?_ (F.args_enumerate_next_1 _))))
  show wpAny _ _ (field (.ref e) 2 >>= _) _ _ _
  refine wpAny_bind (wpAny_field he rfl (x := .ref it) rfl ?_)
  refine wpAny_bind (wpAny_nextOf_tuple_end hh hit hl hx fun h' x he' hx' => ?_)
  obtain ⟨o, ho, hc⟩ := hx'
  refine wpAny_bind (wpAny_isInstance (T := "StopIteration") (b := true) ⟨o, ho, hc⟩ isSubtype_stop ?_)
  exact wpAny_pure (hQ _ he')
end PySem
namespace VL
open PySem PySem.Spec PyProof.Rows L2

/-! ### enumerate(tuple) -/
def IteT (K : PySem.W.Frag) (a : Addr) : It :=
  ⟨fun i H => ∃ (xs : List V) (x : V), SqT K H a xs ∧ xs[i]? = some x, fun i H v H' => ∃ T x, v = .ref T ∧ H T = none ∧ H' = upd H T (.tup [.int (i : Nat), x]) ∧ ∀ xs, SqT K H a xs → xs[i]? = some x, fun i H => ∃ xs : List V, SqT K H a xs ∧ xs.length ≤ i⟩
theorem turn_enumT {P : Program} {w : World} {K : PySem.W.Frag} {elts : List Expr} {kk : Nat} {tpos : Pos} (a e it : Addr) (hai : a ≠ it) (hae : a ≠ e) :
    Turn P w K (.Tuple elts kk tpos) (IteT K a) [e, it] e (fun i h => (∃ old, IsEnum h e it ((i : Nat) : Int) old) ∧ h.IsTupleIter it a i ∧ e ≠ it) where
  mem := by simp
  obj := fun i h st b hb => by
    obtain ⟨⟨old, he⟩, ⟨o, ho, hc, hd⟩, _⟩ := st
    have e' : b = e ∨ b = it := by simpa using hb
    rcases e' with z | z
    · rw [z]; exact ⟨_, he, fun v q => nomatch q⟩
    · rw [z]; exact ⟨o, ho, fun v q => by rw [hd] at q; cases q⟩
  keep := fun i h h' st k => let ⟨⟨old, he⟩, hi, hne⟩ := st; ⟨⟨old, k e (by simp) _ he⟩, hi.at fun o q => k it (by simp) o q, hne⟩
  item := by
    intro X hP hw hK hc i pins s σ H E I hf st hg
    subst hP hw hK
    obtain ⟨⟨old, he⟩, hit, hne⟩ := st
    obtain ⟨xs, x, hq, hx⟩ := hg
    obtain ⟨its, rv, p, hz⟩ := I.tuple hq
    have p2 : s.heap.IsTuple a its.toArray := p
    have hlen := rv.length
    have hil' : i < xs.length := (List.getElem?_eq_some_iff.mp hx).1
    have hel : e < s.heap.objs.size := Heap.lt_size he
    have hil : it < s.heap.objs.size := by obtain ⟨_, q, _⟩ := hit; exact Heap.lt_size q
    refine wpAny_pyNext_enum_itemD (fp := [it, a]) (Draws.tuple (prog := X.prog) (w := X.w) (A := X.A.in1) (show X.A.in1.handled = none from I.ok.hd hc) it a hai its.toArray) he ⟨hit, p2⟩ (by simp; omega) hne (by simp [hne, Ne.symm hae]) fun u h' tk hP ho hst hT hsz hk => ?_
    have hu : its[i]? = some u := by simpa using hP
    obtain ⟨u', hu', ru⟩ := rv.get hx
    rw [hu] at hu'; cases hu'
    refine ⟨_, rfl, wpAny_letOwnedTupleGo_enum (s := { s with heap := h', toks := tk + 1 }) ho fun h'' he' sb => ?_⟩
    have hT2 : h''.get? s.heap.objs.size = some { cls := .type "tuple", data := .seq #[.int i tk, u] } := (sb.2 _ (Nat.ne_of_gt hel)).trans hT
    have new : ObjOk X.prog X.w (upd H s.heap.objs.size (.tup [.int (i : Nat), x])) h'' s.heap.objs.size (.tup [.int (i : Nat), x]) :=
      ⟨by show 2 ≤ sizeLine; decide, [.int i tk, u], .cons ⟨_, rfl⟩ (.cons ru .nil), ⟨_, hT2, rfl, _, rfl⟩⟩
    have I1 : Inv X pins σ (upd H s.heap.objs.size (.tup [.int (i : Nat), x])) { s with heap := h'', toks := tk + 1 } :=
      I.turnedNew (ch := [e, it]) (fun b ob hb q => (sb.2 b (fun z => hb (by simp [z]))).trans (hk b ob (fun z => hb (by simp [z])) (fun z => hb (by simp [z])) q)) hf (Nat.le_refl _) new
    refine ⟨.ref s.heap.objs.size, _, I1, rfl, ⟨_, x, rfl, I.hok.fresh (Nat.le_refl _), rfl, fun ys hy => by rw [I.tuple_inj hy hq]; exact hx⟩, ⟨⟨u, ?_⟩, hst.1.at fun o q => (sb.2 it (Ne.symm hne)).trans q, hne⟩, fun b hb => ?_⟩
    · have e1 : ((i + 1 : Nat) : Int) = (i : Int) + 1 := by omega
      rw [e1]; exact he'
    · have hb' : b < s.heap.objs.size := by
        have e' : b = e ∨ b = it := by simpa using hb
        rcases e' with z | z
        · rw [z]; exact hel
        · rw [z]; exact hil
      rw [upd_ne (Nat.ne_of_lt hb')]
      exact (hf b hb).1
  done := by
    intro X hP hw hK hc i pins s σ H E I hf st hg
    subst hP hw hK
    obtain ⟨⟨old, he⟩, hit, hne⟩ := st
    obtain ⟨xs, hq, hx⟩ := hg
    obtain ⟨its, rv, p, hz⟩ := I.tuple hq
    have p2 : s.heap.IsTuple a its.toArray := p
    obtain ⟨f0, f1, f2, f3, f4, f5⟩ := hf it (by simp)
    have hl := rv.length
    exact vl_enumT_end (I.ok.hd hc) he hit p2 (by simp; omega) fun h' eb => ⟨rfl, I.turned (t' := s.toks) (fun b o hb q => eb b o hb q) f0 f1 f3 f4 f5⟩
  self := fun A i s Q E st h => let ⟨⟨_, he⟩, _⟩ := st; wpAny_pyIter_enum he h
/-- enumerate of a list or a tuple -/
def iEnumU (K : PySem.W.Frag) (ta : TA) : TI := fun σ H R => ta σ H fun vs H1 => ∃ a, vs = [.ref a] ∧ ((∃ xs, SqL K H1 a xs ∧ R (Ite K a) H1) ∨ (∃ xs, SqT K H1 a xs ∧ R (IteT K a) H1))
theorem pi_enumU {X : Cx} {e : Expr} {ta : TA} {p pos tpos : Pos} {elts : List Expr} {kk : Nat} (hg : Gl X "enumerate") (hm : X.mg "enumerate" = none) (ha : PA X [e] ta) (hs : starEach [e] X.env = [(false, eval e X.env)] := by rfl) :
    PI X (.Tuple elts kk tpos) (.Call (.Name "enumerate" p) [e] [] pos) (iEnumU X.K ta) := by
  refine ⟨fun pins s σ H R I h => ?_⟩
  refine Call_ (ld_blt I hg hm boot_enumerate (PyProof.Rows.callWith_type1 (thn (ha.run pos pins s σ H _ I h) fun us s1 ⟨vs, H1, I1, r1, q1⟩ => ?_) hs rfl))
  · obtain ⟨a, ev, q⟩ := q1
    subst ev
    cases r1 with
    | cons r rr =>
      cases rr
      cases r
      rcases q with ⟨xs, hq, q⟩ | ⟨xs, hq, q⟩
      · obtain ⟨its, rv, p', hz⟩ := I1.list hq
        refine call_enumerate_list p'.isList fun h' he hit hsz hk => wpAny_pyIter_enum he ?_
        have I2 : Inv X pins σ H1 { s1 with heap := h' } := I1.kept (t' := s1.toks) hk
        refine ⟨s1.heap.objs.size + 1, [s1.heap.objs.size + 1, s1.heap.objs.size], _, _, H1, rfl, I2, turn_enum a (s1.heap.objs.size + 1) s1.heap.objs.size, ⟨⟨.none, he⟩, hit, Nat.succ_ne_self _⟩, fun b hb => ?_, q⟩
        have e' : b = s1.heap.objs.size + 1 ∨ b = s1.heap.objs.size := by simpa using hb
        have hle : s1.heap.objs.size ≤ b := by
          rcases e' with z | z
          · rw [z]; exact Nat.le_add_right _ _
          · rw [z]; exact Nat.le_refl _
        exact I1.fpOk hle (I1.hok.fresh hle)
      · obtain ⟨its, rv, p', hz⟩ := I1.tuple hq
        have p2 : s1.heap.IsTuple a its.toArray := p'
        have hal : a < s1.heap.objs.size := by obtain ⟨o, ho, _⟩ := p2; exact Heap.lt_size ho
        refine vl_call_enumerate (begins_tuple a its.toArray) p2 fun h' he hit hsz hk => wpAny_pyIter_enum he ?_
        have I2 : Inv X pins σ H1 { s1 with heap := h' } := I1.kept (t' := s1.toks) hk
        refine ⟨s1.heap.objs.size + 1, [s1.heap.objs.size + 1, s1.heap.objs.size], _, _, H1, rfl, I2, turn_enumT a (s1.heap.objs.size + 1) s1.heap.objs.size (Nat.ne_of_lt hal) (Nat.ne_of_lt (Nat.lt_succ_of_lt hal)), ⟨⟨.none, he⟩, ⟨_, hit, rfl, rfl⟩, Nat.succ_ne_self _⟩, fun b hb => ?_, q⟩
        have e' : b = s1.heap.objs.size + 1 ∨ b = s1.heap.objs.size := by simpa using hb
        have hle : s1.heap.objs.size ≤ b := by
          rcases e' with z | z
          · rw [z]; exact Nat.le_add_right _ _
          · rw [z]; exact Nat.le_refl _
        exact I1.fpOk hle (I1.hok.fresh hle)
def enD (k : Nat) : List D → List D
  | [] => []
  | d :: ds => .tup [.int k, d] :: enD (k + 1) ds
theorem enD_len : ∀ (k : Nat) (ds : List D), (enD k ds).length = ds.length
  | _, [] => rfl
  | k, d :: ds => by simp [enD, enD_len (k + 1) ds]
theorem enD_get : ∀ {k : Nat} {ds : List D} {i : Nat} {z : D}, (enD k ds)[i]? = some z → ∃ d, ds[i]? = some d ∧ z = .tup [.int ((k + i : Nat) : Int), d]
  | _, [], _, _, h => by simp [enD] at h
  | k, d :: ds, 0, z, h => by simp [enD] at h; exact ⟨d, rfl, h.symm⟩
  | k, d :: ds, i + 1, z, h => by
    simp only [enD, List.getElem?_cons_succ] at h
    obtain ⟨e, h1, h2⟩ := enD_get h
    exact ⟨e, by simpa using h1, by rw [h2, show k + 1 + i = k + (i + 1) by omega]⟩
section
variable {K : PySem.W.Frag} {W0 : Wd} {E : XK}
theorem yields_enum {F : Hp} {a : Addr} {xs : List V} {ds : List D} (h : SqL K F a xs) (hd : DenL K F xs ds) : Yields K F (Ite K a) (enD 0 ds) := by
  intro W i k f
  have hq : SqL K W.H a xs := (k.fh).seq (f.seq h)
  refine ⟨fun hi => ⟨xs, hq, by rw [enD_len] at hi; rw [hd.length]; exact hi⟩, fun z e => ?_⟩
  obtain ⟨d, e1, rfl⟩ := enD_get e
  obtain ⟨v, hv, dv⟩ := hd.get e1
  refine ⟨⟨xs, v, hq, hv⟩, fun x H' y => ?_⟩
  obtain ⟨T, u, rfl, hT, rfl, hu⟩ := y
  have := hu xs hq
  rw [hv] at this; cases this
  refine ⟨W.new true T (.tup [.int (i : Nat), v]), new_ok k hT, new_gr k hT, rfl, .tup (SqT.of (new_self (b := true))) ?_⟩
  rw [Nat.zero_add]
  exact new_denL (b := true) k hT (.cons (.int _) (.cons (dv.up f) .nil))
theorem yields_enumT {F : Hp} {a : Addr} {xs : List V} {ds : List D} (h : SqT K F a xs) (hd : DenL K F xs ds) : Yields K F (IteT K a) (enD 0 ds) := by
  intro W i k f
  have hq : SqT K W.H a xs := sqT_same k.fh (sqT_same f h)
  refine ⟨fun hi => ⟨xs, hq, by rw [enD_len] at hi; rw [hd.length]; exact hi⟩, fun z e => ?_⟩
  obtain ⟨d, e1, rfl⟩ := enD_get e
  obtain ⟨v, hv, dv⟩ := hd.get e1
  refine ⟨⟨xs, v, hq, hv⟩, fun x H' y => ?_⟩
  obtain ⟨T, u, rfl, hT, rfl, hu⟩ := y
  have := hu xs hq
  rw [hv] at this; cases this
  refine ⟨W.new true T (.tup [.int (i : Nat), v]), new_ok k hT, new_gr k hT, rfl, .tup (SqT.of (new_self (b := true))) ?_⟩
  rw [Nat.zero_add]
  exact new_denL (b := true) k hT (.cons (.int _) (.cons (dv.up f) .nil))
def gEnum (g : GE) : GA := fun c => match g c with
  | some d => d.items.map (enD 0)
  | none => none
theorem vi_enum {te : TE} {g : GE} (h : VT K W0 true te g) : VI K W0 (iEnumU K (tCons te tNil)) (gEnum g) := by
  intro W σ c ds R k u s e q
  unfold gEnum at e
  split at e
  · rename_i d hd
    simp only [Option.map_eq_some_iff] at e
    obtain ⟨es, e1, e2⟩ := e
    subst e2
    refine h W σ c d _ k u s hd fun W1 v k1 g1 d1 => ?_
    cases d with
    | lst es =>
      cases e1
      cases d1 with
      | lst h1 h2 => exact ⟨_, rfl, .inl ⟨_, SqL.of (k1.fh _ _ h1), q W1 _ k1 g1 (yields_enum (SqL.of h1) h2)⟩⟩
    | scr es =>
      cases e1
      cases d1 with
      | scr h1 h2 => exact ⟨_, rfl, .inl ⟨_, k1.fh.seq h1, q W1 _ k1 g1 (yields_enum h1 h2)⟩⟩
    | tup es =>
      cases e1
      cases d1 with
      | tup h1 h2 => exact ⟨_, rfl, .inr ⟨_, sqT_same k1.fh h1, q W1 _ k1 g1 (yields_enumT h1 h2)⟩⟩
    | _ => cases e1
  · cases e

/-! ### list(range(..)) -/
def VRg (K : PySem.W.Frag) (W0 : Wd) (tr : L2.St → Hp → (Int → Int → Hp → Prop) → Prop) (g : Env → Option (Int × Int)) : Prop :=
  ∀ (W : Wd) (σ : L2.St) (c : Env) (r : Int × Int) (Q : Int → Int → Hp → Prop), WOk W → Up W0 W → SD K W0 W σ c → g c = some r → (∀ W', WOk W' → Gr W W' → Q r.1 r.2 W'.H) → tr σ W.H Q
def gR1 (g : GE) : Env → Option (Int × Int) := fun c => match g c with
  | some (.int j) => some (0, j)
  | _ => none
def gR2 (ga gb : GE) : Env → Option (Int × Int) := fun c => match ga c with
  | some (.int i) => match gb c with
    | some (.int j) => some (i, j)
    | _ => none
  | _ => none
theorem vr_1 {b : Bool} {te : TE} {g : GE} (h : VT K W0 b te g) : VRg K W0 (tRg1 te) (gR1 g) := by
  intro W σ c r Q k u s e q
  unfold gR1 at e
  split at e
  · rename_i j hj
    cases e
    exact h W σ c _ _ k u s hj fun W1 v k1 g1 d1 => by cases d1; exact ⟨j, rfl, q W1 k1 g1⟩
  · cases e
theorem vr_2 {b1 b2 : Bool} {ta tb : TE} {ga gb : GE} (ha : VT K W0 b1 ta ga) (hb : VT K W0 b2 tb gb) : VRg K W0 (tRg2 ta tb) (gR2 ga gb) := by
  intro W σ c r Q k u s e q
  unfold gR2 at e
  split at e
  · rename_i i hi
    split at e
    · rename_i j hj
      cases e
      refine ha W σ c _ _ k u s hi fun W1 v k1 g1 d1 => ?_
      cases d1
      exact hb W1 σ c _ _ k1 (u.gr g1) (s.gr g1) hj fun W2 v k2 g2 d2 => by cases d2; exact ⟨i, j, rfl, rfl, q W2 k2 (g1.trans g2)⟩
    · cases e
  · cases e
instance : ∀ a b, Decidable (RgOk a b) := fun a b => by unfold RgOk; infer_instance
def gLRg (g : Env → Option (Int × Int)) : GA := fun c => match g c with
  | some (a, b) => if RgOk a b then some (rgD a (b - a).toNat) else none
  | none => none
theorem den_rg {H : Hp} (a b : Int) : DenL K H (rgV a b) (rgD a (b - a).toNat) := by
  unfold rgV rgD
  generalize List.range (b - a).toNat = l
  induction l with
  | nil => exact .nil
  | cons x l ih => exact .cons (.int _) ih
theorem vn_listRg {tr : L2.St → Hp → (Int → Int → Hp → Prop) → Prop} {g : Env → Option (Int × Int)} (h : VRg K W0 tr g) : VN K W0 (tLstRg tr) (gLRg g) := by
  intro W σ c ds Q k u s e q
  unfold gLRg at e
  split at e
  · rename_i a b hab
    split at e
    · rename_i hz
      cases e
      exact h W σ c _ _ k u s hab fun W1 k1 g1 => ⟨hz, fun l hl => q W1 l _ k1 g1 hl (den_rg a b)⟩
    · cases e
  · cases e

/-! ### own exceptions -/
/-- __init__ of an exception class: one field, two fields -/
def spX1 (C : Addr) (f : Str) : Sp := fun vs H Q _ => ∃ (a : Addr) (y : V), vs = [.ref a, y] ∧ H a = some (exo a C none) ∧ ∀ d, H d = none → d ≠ a → Q .non (upd (upd H d (exd d [(f, y)])) a (exo a C (some d)))
def spX2 (C : Addr) (f g : Str) : Sp := fun vs H Q _ => ∃ (a : Addr) (y z : V), vs = [.ref a, y, z] ∧ H a = some (exo a C none) ∧ ∀ d, H d = none → d ≠ a → Q .non (upd (upd (upd H d (exd d [(f, y)])) a (exo a C (some d))) d (exd d [(g, z), (f, y)]))
theorem x1_run {C : Addr} {f : Str} {N : List Str} {vs : List V} {H : Hp} {Q : VK} {E' : XK} (T : OexC K C) (hf : PySem.W.findIn K (.ref C) f = some none) (h : spX1 C f vs H Q E') :
    tOst K f (tVar 0) (tVar 1) { nx := fun _ H' => Q .non H', rt := Q } (L2.start N vs) H := by
  obtain ⟨a, y, rfl, ha, q⟩ := h
  exact ⟨y, rfl, _, rfl, a, C, rfl, T, hf, .inl ⟨ha, fun d hd hne => q d hd hne⟩⟩
theorem x2_run {C : Addr} {f g : Str} {N : List Str} {vs : List V} {H : Hp} {Q : VK} {E' : XK} (T : OexC K C) (hf : PySem.W.findIn K (.ref C) f = some none) (hg : PySem.W.findIn K (.ref C) g = some none) (h : spX2 C f g vs H Q E') :
    tSeq (tOst K f (tVar 0) (tVar 1)) (tOst K g (tVar 0) (tVar 2)) { nx := fun _ H' => Q .non H', rt := Q } (L2.start N vs) H := by
  obtain ⟨a, y, z, rfl, ha, q⟩ := h
  refine ⟨y, rfl, _, rfl, a, C, rfl, T, hf, .inl ⟨ha, fun d hd hne => ?_⟩⟩
  refine ⟨z, rfl, _, rfl, a, C, rfl, T, hg, .inr ⟨d, [(f, y)], upd_same, ?_, by simp, q d hd hne⟩⟩
  rw [upd_ne hne, upd_same]
def gRaise1 (C : Addr) (f : Str) (g : GA) : GS := fun c => match g c with
  | some [y] => some (.ex C [f] [y])
  | _ => none
def gRaise2 (C : Addr) (f g : Str) (gs : GA) : GS := fun c => match gs c with
  | some [y, z] => some (.ex C [g, f] [z, y])
  | _ => none
theorem del_upd3 {H : Hp} {a d : Addr} {o1 o2 o3 : HO} {x : HO} (ha : H a = none) (hda : d ≠ a) : upd (del (upd (upd (upd H a o1) d o2) a o3) a) d x = upd H d x := by
  funext b
  by_cases hb : b = d
  · subst hb; rw [upd_same, upd_same]
  · rw [upd_ne hb, upd_ne hb]
    by_cases hba : b = a
    · subst hba; rw [del_same, ha]
    · rw [del_ne hba, upd_ne hba, upd_ne hb, upd_ne hba]
theorem del_upd4 {H : Hp} {a d : Addr} {o1 o2 o3 o4 : HO} {x : HO} (ha : H a = none) (hda : d ≠ a) : upd (del (upd (upd (upd (upd H a o1) d o2) a o3) d o4) a) d x = upd H d x := by
  funext b
  by_cases hb : b = d
  · subst hb; rw [upd_same, upd_same]
  · rw [upd_ne hb, upd_ne hb]
    by_cases hba : b = a
    · subst hba; rw [del_same, ha]
    · rw [del_ne hba, upd_ne hb, upd_ne hba, upd_ne hb, upd_ne hba]
theorem vs_raise1 {C : Addr} {f : Str} {ts : TA} {gs : GA} (h : VArg K W0 true ts gs) : VS K W0 E (fun _ σ H => tMkO C (spX1 C f) [] ts σ H fun cls d H' => E cls d H') (gRaise1 C f gs) := by
  intro W σ c D k u s q
  unfold gRaise1 at q
  split at q
  · rename_i y hy
    refine h W σ c _ _ k u s hy fun W1 vs k1 g1 d1 => ?_
    cases d1 with
    | @cons v _ _ _ h1 h2 =>
      cases h2
      refine ⟨by simp, fun a ha => ⟨a, v, rfl, upd_same, fun d hd hne => ⟨rfl, d, _, upd_same, by rw [upd_ne hne, upd_same], ?_, ?_⟩⟩⟩
      · rw [upd_ne hne] at hd; exact hd
      · rw [upd_ne hne] at hd
        rw [del_upd3 ha hne]
        have hn := (u.gr g1).h.free hd
        refine q ⟨upd W1.H d (.xd [(f, v)]), W1.G, W1.F⟩ d [(f, v)] ⟨k1.fg, k1.gh.trans (same_upd hd), k1.gt⟩ ⟨(u.gr g1).h.trans (same_upd hd), (u.gr g1).f, (u.gr g1).fo⟩ g1.f upd_same hn rfl (.cons h1 .nil)
  · exact q.elim
theorem vs_raise2 {C : Addr} {f g : Str} {ts : TA} {gs : GA} (h : VArg K W0 true ts gs) : VS K W0 E (fun _ σ H => tMkO C (spX2 C f g) [] ts σ H fun cls d H' => E cls d H') (gRaise2 C f g gs) := by
  intro W σ c D k u s q
  unfold gRaise2 at q
  split at q
  · rename_i y z hy
    refine h W σ c _ _ k u s hy fun W1 vs k1 g1 d1 => ?_
    cases d1 with
    | @cons v _ _ _ h1 h2 =>
      cases h2 with
      | @cons w _ _ _ h2 h3 =>
        cases h3
        refine ⟨by simp, fun a ha => ⟨a, v, w, rfl, upd_same, fun d hd hne => ⟨rfl, d, _, by rw [upd_ne (Ne.symm hne), upd_same], upd_same, ?_, ?_⟩⟩⟩
        · rw [upd_ne hne] at hd; exact hd
        · rw [upd_ne hne] at hd
          rw [del_upd4 ha hne]
          have hn := (u.gr g1).h.free hd
          refine q ⟨upd W1.H d (.xd [(g, w), (f, v)]), W1.G, W1.F⟩ d [(g, w), (f, v)] ⟨k1.fg, k1.gh.trans (same_upd hd), k1.gt⟩ ⟨(u.gr g1).h.trans (same_upd hd), (u.gr g1).f, (u.gr g1).fo⟩ g1.f upd_same hn rfl (.cons h2 (.cons h1 .nil))
  · exact q.elim

/-! ### try: f(..) except X as n: suite -/
def notExc : Option Cell → Bool
  | some (.exc _ _ _) => false
  | _ => true
def excW (W0 : Wd) (a d : Addr) : Wd := ⟨W0.H, fun b => if b = 0 then some (.own a) else if b = 1 then some (.own d) else W0.G b, W0.F⟩
theorem excW_xa {a d : Addr} : (excW W0 a d).xa = a := rfl
theorem excW_xd {a d : Addr} : (excW W0 a d).xd = d := rfl
theorem sd_excW {W W0' : Wd} {σ : L2.St} {c : Env} (hH : W0'.H = W0.H) (hA : W0'.sa = W0.sa) (hD : W0'.sd = W0.sd) (hn : c.all notExc = true) (s : SD K W0 W σ c) : SD K W0' W σ c := by
  refine ⟨s.len, fun i x y h1 h2 => ?_, s.one⟩
  have okc := s.ok i x y h1 h2
  have hy : notExc y = true := List.all_eq_true.mp hn y (List.mem_of_getElem? h2)
  cases y with
  | none => trivial
  | some cl =>
    cases cl with
    | fz d => exact okc
    | own ds => obtain ⟨l, vs, a1, a2, a3, a4, a5, a6⟩ := okc; exact ⟨l, vs, a1, a2, a3, a4, by rw [hH]; exact a5, a6⟩
    | slf C ns ds => obtain ⟨fs, a1, a2, a3, a4, a5, a6⟩ := okc; exact ⟨fs, by rw [hA]; exact a1, by rw [hA, hD]; exact a2, by rw [hA]; exact a3, by rw [hA]; exact a4, by rw [hH, hA]; exact a5, a6⟩
    | exc C ns ds => exact absurd hy Bool.false_ne_true
/-- the body is one call; the exceptions it may raise are of the class at C, which the clause names -/
def gTry (i : Nat) (C : Addr) (m : List D → Option Res) (ga : GA) (gs : GS) : GS := fun c => match ga c with
  | some ds => match m ds with
    | some (.val _) => some (.nx c)
    | some (.exn C' ns es) => if C' = C ∧ (c.set i none).all notExc = true then
        match gs (c.set i (some (.exc C ns es))) with
        | some (.nx c') => if (c'.set i none).all notExc = true then some (.nx (c'.set i none)) else none
        | some (.ret d) => some (.ret d)
        | _ => none
      else none
    | none => none
  | none => none
theorem vs_try {i : Nat} {C : Addr} {cV : Value} {m : List D → Option Res} {ta : TA} {ga : GA} {ts : Addr → Value → Option Addr → TS} {gs : GS} {Wout : WX}
    (hx : PySem.W.exmOne K (.ref C) cV = some true) (ha : VArg K W0 true ta ga) (hs : ∀ a d, VS K (excW W0 a d) E (ts a (.ref C) (some d)) gs) :
    VS K W0 E (fun D σ H => tDrop (tCallS (spP K m) (WE (wAs K cV i ts Wout D)) ta) D σ H) (gTry i C m ga gs) := by
  intro W σ c D k u s q
  unfold gTry at q
  cases e : ga c with
  | none => rw [e] at q; exact q.elim
  | some ds =>
    simp only [e] at q
    refine ha W σ c ds _ k u s e fun W1 vs k1 g1 d1 => ?_
    cases e2 : m ds with
    | none => simp only [e2] at q; exact q.elim
    | some r =>
      cases r with
      | val d =>
        simp only [e2] at q
        refine ⟨W1.F, ds, .val d, k1.fh, d1, e2, fun H' F' v a1 a2 a3 a4 a5 => ?_⟩
        obtain ⟨k2, g2, f2⟩ := aft_ok (b := true) k1 a1 a2 a3 a4
        exact q (W1.aft true H' F') σ k2 ((u.gr g1).gr g2) (g1.f.trans g2.f) ((s.gr g1).gr g2)
      | exn C' ns es =>
        simp only [e2] at q
        by_cases hC : C' = C ∧ (c.set i none).all notExc = true
        · rw [if_pos hC] at q
          obtain ⟨rfl, hne⟩ := hC
          refine ⟨W1.F, ds, .exn C' ns es, k1.fh, d1, e2, fun H' F' dx fs a1 a2 a3 a4 a5 a6 a7 a8 => ?_⟩
          obtain ⟨k2, g2, f2⟩ := aft_ok (b := true) k1 a1 a2 a3 a4
          refine ⟨true, hx, fun _ a na => ?_, fun z => nomatch z⟩
          have u2 := (u.gr g1).gr g2
          have s2 := (s.gr g1).gr g2
          have u3 : Up (excW W0 a dx) (W1.aft true H' F') := ⟨u2.h, u2.f, u2.fo⟩
          have s3 : SD K (excW W0 a dx) (W1.aft true H' F') (σ.set i none) (c.set i none) := sd_excW (W0 := W0) (W0' := excW W0 a dx) rfl rfl rfl hne (sd_set s2 i none none trivial fun l h => (noHold_none h).elim)
          have s4 : SD K (excW W0 a dx) (W1.aft true H' F') (σ.set i (some (.ref a))) (c.set i (some (.exc C' ns es))) := by
            have z := sd_set s3 i (some (.ref a)) (some (.exc C' ns es)) ⟨fs, rfl, a6, a7, a8.up f2⟩ fun l h => absurd h.2 Bool.false_ne_true
            rw [List.set_set, List.set_set] at z
            exact z
          refine hs a dx (W1.aft true H' F') _ _ _ k2 u3 s4 ?_
          have f3 : Same W.F (W1.aft true H' F').F := g1.f.trans g2.f
          cases e3 : gs (c.set i (some (.exc C' ns es))) with
          | none => rw [e3] at q; exact q.elim
          | some o =>
            rw [e3] at q
            cases o with
            | nx c' =>
              simp only at q
              by_cases hn' : (c'.set i none).all notExc = true
              · rw [if_pos hn'] at q
                intro W3 σ3 k3 u4 f4 s5
                exact q W3 _ k3 ⟨u4.h, u4.f, u4.fo⟩ (f3.trans f4) (sd_excW (W0 := excW W0 a dx) (W0' := W0) rfl rfl rfl hn' (sd_set s5 i none none trivial fun l h => (noHold_none h).elim))
              · rw [if_neg hn'] at q; exact q.elim
            | ret d => exact fun W3 v k3 u4 f4 d3 => q W3 v k3 ⟨u4.h, u4.f, u4.fo⟩ (f3.trans f4) d3
            | bk c => exact q.elim
            | ct c => exact q.elim
            | ex C ns es => exact q.elim
        · rw [if_neg hC] at q; exact q.elim
/-- n.f in the suite -/
def gXf (i : Nat) (C : Addr) (f : Str) : GE := fun c => match c[i]? with
  | some (some (.exc C' ns es)) => if C' = C then lookD ns es f else none
  | _ => none
theorem vt_xf {b : Bool} {i : Nat} {a d C : Addr} {f : Str} : VT K (excW W0 a d) b (tXf a (.ref C) (some d) C f (tVar i)) (gXf i C f) := by
  intro W σ c z Q k u s e q
  unfold gXf at e
  split at e
  · rename_i C' ns es hc
    split at e
    · rename_i hC
      subst hC
      obtain ⟨x, hx, fs, rfl, e1, e2, e3⟩ := s.at hc
      obtain ⟨v, e4, e5⟩ := look_den e2 e3 e
      exact ⟨_, hx, rfl, rfl, d, fs, v, rfl, e1, e4, q W v k (Gr.refl W) (e5.up (by cases b; exact k.fg; exact Same.refl _))⟩
    · cases e
  · cases e
end
end VL
end

section
/-! VF: what the printed derivations name beside VA .. VE. -/
namespace VL
open PySem PySem.Spec PyProof.Rows L2
section
variable {K : PySem.W.Frag} {W0 : Wd} {E : XK} {b : Bool}
def gL (g : GA) : GE := fun c => match g c with
  | some ds => some (.lst ds)
  | none => none
theorem vt_vn {te : TE} {g : GA} (h : VN K W0 te g) : VT K W0 b te (gL g) := by
  have e : gL g = fun c => (g c).map D.lst := by
    funext c
    unfold gL
    cases g c <;> rfl
  rw [e]
  exact h.vt
/-- a, b = x, y -/
def gPar (i j : Nat) (g : GA) : GS := fun c => match g c with
  | some [x, y] => some (.nx ((c.set i (some (.fz x))).set j (some (.fz y))))
  | _ => none
theorem vs_par {i j : Nat} {ta : TA} {g : GA} (h : VArg K W0 true ta g) : VS K W0 E (tPar i j ta) (gPar i j g) := by
  intro W σ c D k u s q
  unfold gPar at q
  split at q
  · rename_i x y hg
    refine h W σ c _ _ k u s hg fun W1 vs k1 g1 d1 => ?_
    cases d1 with
    | cons h1 h2 =>
      cases h2 with
      | cons h2 h3 =>
        cases h3
        exact ⟨_, _, rfl, q W1 _ k1 (u.gr g1) g1.f (sd_fz (sd_fz (s.gr g1) i h1) j h2)⟩
  · exact q.elim
/-- a list or a tuple or a text is walked -/
def iSeqU (K : PySem.W.Frag) (tl : TE) : TI := fun σ H R => tl σ H fun x H1 => (∃ z, x = .str z ∧ R (Its z) H1) ∨ (∃ a, x = .ref a ∧ ((∃ xs, SqL K H1 a xs ∧ R (Itl K a) H1) ∨ (∃ xs, SqT K H1 a xs ∧ R (Itt K a) H1)))
def D.iter : D → Option (List D)
  | .str x => some (x.cps.toList.map fun n => .str ⟨#[n]⟩)
  | .lst ds => some ds | .tup ds => some ds | .scr ds => some ds | _ => none
def gIt (g : GE) : GA := fun c => match g c with
  | some d => d.iter
  | none => none
theorem yields_str {F : Hp} {x : Str} : Yields K F (Its x) (x.cps.toList.map fun n => .str ⟨#[n]⟩) := by
  intro W2 i k2 f2
  refine ⟨fun hi => ?_, fun d hd => ?_⟩
  · simp only [List.length_map, Array.length_toList] at hi
    exact hi
  · rw [List.getElem?_map] at hd
    simp only [Option.map_eq_some_iff] at hd
    obtain ⟨n, h1, h2⟩ := hd
    subst h2
    have hn : x.cps[i]? = some n := by simpa using h1
    refine ⟨?_, fun y H' hy => ⟨W2, k2, Gr.refl W2, ?_, ?_⟩⟩
    · exact (Array.getElem?_eq_some_iff.mp hn).1
    · exact hy.1.symm
    · obtain ⟨_, m, e1, e2⟩ := hy
      rw [hn] at e1
      cases e1
      rw [e2]
      exact .str _
theorem vi_seqU {te : TE} {g : GE} (h : VT K W0 true te g) : VI K W0 (iSeqU K te) (gIt g) := by
  intro W σ c ds R k u s e q
  unfold gIt at e
  split at e
  · rename_i d hd
    refine h W σ c d _ k u s hd fun W1 v k1 g1 d1 => ?_
    cases d with
    | str x =>
      cases e
      cases d1
      exact .inl ⟨x, rfl, q W1 _ k1 g1 yields_str⟩
    | lst es =>
      cases e
      cases d1 with
      | lst h1 h2 => exact .inr ⟨_, rfl, .inl ⟨_, SqL.of (k1.fh _ _ h1), q W1 _ k1 g1 (yields_list (SqL.of h1) h2)⟩⟩
    | scr es =>
      cases e
      cases d1 with
      | scr h1 h2 => exact .inr ⟨_, rfl, .inl ⟨_, k1.fh.seq h1, q W1 _ k1 g1 (yields_list h1 h2)⟩⟩
    | tup es =>
      cases e
      cases d1 with
      | tup h1 h2 => exact .inr ⟨_, rfl, .inr ⟨_, sqT_same k1.fh h1, q W1 _ k1 g1 (yields_tup h1 h2)⟩⟩
    | _ => cases e
  · cases e
/-- isinstance(x, (T1, T2)) -/
def dIsi2 (n m : String) (d : D) : Option D := match d.ty with
  | some t => match kitB t n with
    | some true => some (.bl true)
    | some false => (kitB t m).map .bl
    | none => none
  | none => none
def gIsi2 (n m : String) (g : GE) : GE := fun c => (g c).bind (dIsi2 n m)
theorem vt_isi2 {b1 : Bool} {n m : String} {te : TE} {g : GE} (h : VT K W0 b1 te g) : VT K W0 b (tCB (rIsiT K) (tCons te (tCons (tTup (tCons (tC (.ty n)) (tCons (tC (.ty m)) tNil))) tNil))) (gIsi2 n m g) := by
  intro W σ c d Q k u s e q
  unfold gIsi2 at e
  simp only [Option.bind_eq_some_iff] at e
  obtain ⟨x, e1, e2⟩ := e
  unfold dIsi2 at e2
  split at e2
  · rename_i t ht
    refine h W σ c x _ k u s e1 fun W1 v k1 g1 d1 => ?_
    refine ⟨by show 2 ≤ sizeLine; decide, fun p hp => ?_⟩
    have k2 : WOk (W1.new true p (.tup [.ty n, .ty m])) := new_ok k1 hp
    have g2 : Gr W1 (W1.new true p (.tup [.ty n, .ty m])) := new_gr k1 hp
    have hty : TyX K (upd W1.H p (.tup [.ty n, .ty m])) v (.type t) := ty_run (d1.up ((k1.atH b1).trans (same_upd hp))) ht
    have fin : ∀ r, PySem.W.kitAny K (.type t) [.type n, .type m] = some r → d = .bl r → rIsiT K [v, .ref p] (upd W1.H p (.tup [.ty n, .ty m])) Q := by
      intro r hr hd
      subst hd
      exact ⟨v, p, [.ty n, .ty m], .type t, [.type n, .type m], r, rfl, upd_same, .cons (.ty n) (.cons (.ty m) .nil), hty, hr, q _ _ k2 (g1.trans g2) (.bl r)⟩
    split at e2
    · rename_i hk
      cases e2
      exact fin true (kitAny_cons (kit_ty hk) (fun z => nomatch z) (fun _ => rfl)) rfl
    · rename_i hk
      simp only [Option.map_eq_some_iff] at e2
      obtain ⟨r, h1, h2⟩ := e2
      exact fin r (kitAny_cons (kit_ty hk) (fun _ => kitAny_cons (kit_ty h1) (fun z => by rw [z]; exact kitAny_nil) (fun z => z)) (fun z => nomatch z)) h2.symm
    · cases e2
  · cases e2
end
/-! ### walks of texts, lists, tuples; a def by its name -/
theorem pi_seqU {X : Cx} {tg l : Expr} {tl : TE} (hl : PE X l tl) : PI X tg l (iSeqU X.K tl) := by
  refine ⟨fun pins s σ H R I h => ?_⟩
  refine thn (hl.run pins s σ H _ I h) fun v s1 ⟨x, H1, I1, r1, q1⟩ => ?_
  rcases q1 with ⟨z, e, q⟩ | ⟨a, e, q1⟩
  · subst e
    obtain ⟨t, rfl⟩ := r1
    cases ha : z.cps.all (· < 128)
    · exact wpAny_pyIter_wide ha (pi_one (tk := s1.toks) I1 _ (turn_str _ z t "str_iterator" (.inr rfl)) ⟨_, Heap.get?_push_size _ rfl, rfl, rfl⟩ q)
    · exact wpAny_pyIter_ascii ha (pi_one (tk := s1.toks) I1 _ (turn_str _ z t "str_ascii_iterator" (.inl rfl)) ⟨_, Heap.get?_push_size _ rfl, rfl, rfl⟩ q)
  · subst e
    cases r1
    rcases q1 with ⟨xs, hq, q⟩ | ⟨xs, hq, q⟩
    · obtain ⟨its, rv, p, hz⟩ := I1.list hq
      exact wpAny_pyIter_list p.isList (pi_one (tk := s1.toks) I1 _ (turn_list a _) ⟨_, Heap.get?_push_size _ rfl, rfl, rfl⟩ q)
    · obtain ⟨its, rv, p, hz⟩ := I1.tuple hq
      have p2 : s1.heap.IsTuple a its.toArray := p
      exact wpAny_pyIter_tuple p2 (pi_one (tk := s1.toks) I1 _ (turn_tuple a _) ⟨_, Heap.get?_push_size _ rfl, rfl, rfl⟩ q)
theorem pe_gc {X : Cx} {x : Str} {v : V} {pos : Pos} (hg : Gl X x) (h : ∃ u, X.mg x = some u ∧ RelV v u) (hd : (x == ("__debug__" : Str)) = false := by decide) : PE X (.Name x pos) (tC v) := by
  obtain ⟨u, hm, r⟩ := h
  exact pe_glob hg hm r hd
structure CalX (P : Program) (w : World) (K : PySem.W.Frag) (mg : Str → Option Value) (base : Heap) (CX : CXT) (k : Nat) (x : Str) (sp : Sp) : Prop where
  ex : ∃ (f : Addr) (fd : FuncData) (ps : List Str), FnOk P w K mg base CX k f fd ps sp ∧ mg x = some (.ref f) ∧ PySem.W.keepIn K (.ref f) = true ∧ Binds K fd ps []
structure MakX (P : Program) (w : World) (K : PySem.W.Frag) (mg : Str → Option Value) (base : Heap) (CX : CXT) (k : Nat) (x : Str) (C : Addr) (sp : Sp) : Prop where
  ex : ∃ (f : Addr) (fd : FuncData) (ps : List Str), Mk K C f ∧ FnOk P w K mg base CX k f fd ps sp ∧ mg x = some (.ref C) ∧ Binds K fd ps []
section
variable {X : Cx} {CX : CXT} {k j : Nat} {C : Addr} {x m : Str} {sp : Sp} {p pos apos : Pos} {e o : Expr} {es : List Expr} {ta : TE} {t : TA} {E : XK}
theorem pe_cx (c : CalX X.prog X.w X.K X.mg X.base CX k x sp) (hr : Room j X.A) (hk : k ≤ j) (hx : Passes CX X E) (hg : Gl X x) (ha : PA X (e :: es) t)
    (hdb : (x == ("__debug__" : Str)) = false := by decide) (he : starEach (e :: es) X.env = (false, eval e X.env) :: starEach es X.env := by rfl) (hpl : (backTo pos (starEach es X.env)).any (·.1) = false := by rfl) :
    PE X (.Call (.Name x p) (e :: es) [] pos) (tCall sp [] E t) := by
  obtain ⟨f, fd, ps, F, hm, kp, b⟩ := c.ex
  exact pe_call F (hr.mono hk) hg hm kp b .nil hx ha hdb he hpl
theorem pe_cx0 (c : CalX X.prog X.w X.K X.mg X.base CX k x sp) (hr : Room j X.A) (hk : k ≤ j) (hx : Passes CX X E) (hg : Gl X x)
    (hdb : (x == ("__debug__" : Str)) = false := by decide) :
    PE X (.Call (.Name x p) [] [] pos) (tCall sp [] E tNil) := by
  obtain ⟨f, fd, ps, F, hm, kp, b⟩ := c.ex
  exact pe_call0 F (hr.mono hk) hg hm kp b .nil hx hdb
theorem pe_csx (c : CalX X.prog X.w X.K X.mg X.base CX k x sp) (hr : Room j X.A) (hk : k ≤ j) {E' : L2.St → XK} (hx : ∀ σ, PassesAt CX X σ (E' σ)) (hg : Gl X x) (ha : PA X (e :: es) t)
    (hdb : (x == ("__debug__" : Str)) = false := by decide) (he : starEach (e :: es) X.env = (false, eval e X.env) :: starEach es X.env := by rfl) (hpl : (backTo pos (starEach es X.env)).any (·.1) = false := by rfl) :
    PE X (.Call (.Name x p) (e :: es) [] pos) (tCallS sp E' t) := by
  obtain ⟨f, fd, ps, F, hm, kp, b⟩ := c.ex
  exact pe_callS F (hr.mono hk) hg hm kp b hx ha hdb he hpl
theorem pe_mx (c : MakX X.prog X.w X.K X.mg X.base CX k x C sp) (hr : Room j X.A) (hk : k + 1 ≤ j) (hx : Passes CX X E) (hg : Gl X x) (ha : PA X (e :: es) t)
    (hdb : (x == ("__debug__" : Str)) = false := by decide) (he : starEach (e :: es) X.env = (false, eval e X.env) :: starEach es X.env := by rfl) (hpl : (backTo pos (starEach es X.env)).any (·.1) = false := by rfl) :
    PE X (.Call (.Name x p) (e :: es) [] pos) (tMake C sp [] E t) := by
  obtain ⟨f, fd, ps, M, F, hm, b⟩ := c.ex
  exact pe_make M F (hr.mono hk) hg hm b .nil hx ha hdb he hpl
/-- an own exception class that is raised by its name -/
structure ExcX (P : Program) (w : World) (K : PySem.W.Frag) (mg : Str → Option Value) (base : Heap) (k : Nat) (x : Str) (C : Addr) (sp : Sp) : Prop where
  ex : ∃ (f : Addr) (fd : FuncData) (ps : List Str), OexC K C ∧ PySem.W.findIn K (.ref C) "__init__" = some (some (.ref f)) ∧ PySem.W.typeIn K (.ref f) = some (.type "function") ∧ FnOk P w K mg base CX0 k f fd ps sp ∧ Binds K fd ps [] ∧ mg x = some (.ref C)
theorem pmk_x {ta' : TA} (c : ExcX X.prog X.w X.K X.mg X.base k x C sp) (hr : Room j X.A) (hk : k + 1 ≤ j) (hg : Gl X x) (ha : PA X (e :: es) ta')
    (hdb : (x == ("__debug__" : Str)) = false := by decide) (he : starEach (e :: es) X.env = (false, eval e X.env) :: starEach es X.env := by rfl) (hpl : (backTo pos (starEach es X.env)).any (·.1) = false := by rfl) :
    PMk X (.Call (.Name x p) (e :: es) [] pos) (tMkO C sp [] ta') := by
  obtain ⟨f, fd, ps, T, iC, tI, F, b, hm⟩ := c.ex
  exact pmk_oex T iC tI F (hr.mono hk) b .nil pass0 hg hm ha hdb he hpl
end
end VL
end

section
/-! VX: a def that returns a new list whose last item is a list of its own; a caller that appends to that item. -/
namespace VL
open PySem PySem.Spec PyProof.Rows L2
section
variable {K : PySem.W.Frag} {W0 : Wd} {E : XK} {b : Bool}
abbrev GM := Env → Option (List D × List D)
def gA2 (g1 g2 : GE) : GA := fun c => match g1 c with
  | some x => match g2 c with
    | some y => some [x, y]
    | none => none
  | none => none
theorem gA2_some {g1 g2 : GE} {c : Env} {ds : List D} (h : gA2 g1 g2 c = some ds) : ∃ x y, g1 c = some x ∧ g2 c = some y ∧ ds = [x, y] := by
  unfold gA2 at h
  split at h
  · rename_i x hx
    split at h
    · rename_i y hy
      cases h
      exact ⟨x, y, hx, hy, rfl⟩
    · cases h
  · cases h
def VM (K : PySem.W.Frag) (W0 : Wd) (ts : TS) (g : GM) : Prop :=
  ∀ (W : Wd) (σ : L2.St) (c : Env) (D : Ends) (ds es : List VL.D), WOk W → Up W0 W → SD K W0 W σ c → g c = some (ds, es) →
    (∀ W' p l vs us, WOk W' → Up W0 W' → Same W.F W'.F → W'.H p = some (.lst (vs ++ [.ref l])) → W'.H l = some (.lst us) → W0.H p = none → W0.H l = none → p ≠ l → W'.F p = none → W'.F l = none → DenL K W'.F vs ds → DenL K W'.F us es → D.rt (.ref p) W'.H) → ts D σ W.H
def gMSeq (g1 : GS) (g2 : GM) : GM := fun c => match g1 c with
  | some (.nx c') => g2 c'
  | _ => none
theorem vm_seq {t1 t2 : TS} {g1 : GS} {g2 : GM} (h1 : VS K W0 E t1 g1) (h2 : VM K W0 t2 g2) : VM K W0 (tSeq t1 t2) (gMSeq g1 g2) := by
  intro W σ c D ds es k u s e q
  unfold gMSeq at e
  split at e
  · rename_i c' hc'
    refine h1 W σ c { D with nx := t2 D } k u s ?_
    rw [hc']
    exact fun W1 σ1 k1 u1 f1 s1 => h2 W1 σ1 c' D ds es k1 u1 s1 e fun W' p l vs us a1 a2 a3 => q W' p l vs us a1 a2 (f1.trans a3)
  · cases e
/-- return [.., x], x a list of one's own -/
def gMRet (i : Nat) (g : GA) : GM := fun c => match c[i]? with
  | some (some (.own es)) => match g c with
    | some ds => if ds.length < sizeLine then some (ds, es) else none
    | none => none
  | _ => none
theorem vm_ret {i : Nat} {t1 t2 : TE} {g1 g2 : GE} (h1 : VT K W0 true t1 g1) (h2 : VT K W0 true t2 g2) :
    VM K W0 (tRet (tLst (tCons t1 (tCons t2 (tCons (tVar i) tNil))))) (gMRet i (gA2 g1 g2)) := by
  intro W σ c D ds es k u s e q
  unfold gMRet at e
  split at e
  · rename_i es' hc
    split at e
    · rename_i ds' hds
      split at e
      · rename_i hz
        cases e
        obtain ⟨x, y, ex, ey, rfl⟩ := gA2_some hds
        refine h1 W σ c x _ k u s ex fun Wa va ka ga da => ?_
        refine h2 Wa σ c y _ ka (u.gr ga) (s.gr ga) ey fun Wb vb kb gb db => ?_
        have s2 := (s.gr ga).gr gb
        have u2 := (u.gr ga).gr gb
        obtain ⟨z, hx, l, us, rfl, a1, a2, a3, a4, a5⟩ := s2.at hc
        refine ⟨_, hx, by show 3 ≤ sizeLine; decide, fun p hp => ?_⟩
        have npl : p ≠ l := fun z => by rw [z, a1] at hp; cases hp
        have nw : W0.H p = none := u2.h.free hp
        refine q ⟨upd Wb.H p (.lst ([va, vb] ++ [.ref l])), Wb.F, Wb.F⟩ p l [va, vb] us ⟨Same.refl _, kb.fh.trans (same_upd hp), fun _ _ e _ => e⟩ ⟨u2.h.trans (same_upd hp), u2.f, u2.fo⟩ (ga.f.trans gb.f) upd_same ((upd_ne (Ne.symm npl)).trans a1) nw a4 npl (kb.nF hp) a3 (.cons (da.up gb.f) (.cons db .nil)) a5
      · cases e
    · cases e
  · cases e
/-- what such a def promises -/
def spM (K : PySem.W.Frag) (m : List D → Option (List D × List D)) : Sp := fun vs H Q _ => ∃ (F : Hp) (ds as es : List D), Same F H ∧ DenL K F vs ds ∧ m ds = some (as, es) ∧
  ∀ H' F' p l xs us, Same H H' → Same F F' → Same F' H' → (∀ a o, H a = some o → F' a = F a) → H p = none → H l = none → p ≠ l → H' p = some (.lst (xs ++ [.ref l])) → H' l = some (.lst us) → F' p = none → F' l = none → DenL K F' xs as → DenL K F' us es → Q (.ref p) H'
def mmOf (n nn : Nat) (g : GM) : List D → Option (List D × List D) := fun ds => if ds.length = n then g (envOf nn ds) else none
theorem mmOf_len {n nn : Nat} {g : GM} {ds : List D} {r : List D × List D} (h : mmOf n nn g ds = some r) : ds.length = n ∧ g (envOf nn ds) = some r := by
  unfold mmOf at h
  split at h
  · exact ⟨by assumption, h⟩
  · cases h
theorem spM_len {m : List D → Option (List D × List D)} {n : Nat} (hm : ∀ ds r, m ds = some r → ds.length = n) : ∀ vs H Q E, spM K m vs H Q E → vs.length = n := by
  rintro vs H Q E' ⟨F, ds, as, es, hF, hd, e, _⟩
  rw [hd.length]
  exact hm ds _ e
theorem run_defM {N : List Str} {n nn : Nat} {ts : TS} {g : GM} {vs : List V} {H : Hp} {Q : VK} (hN : N.length = nn) (hv : ∀ W0, VM K W0 ts g) (h : spM K (mmOf n nn g) vs H Q E) : ts { nx := fun _ H' => Q .non H', rt := Q } (L2.start N vs) H := by
  obtain ⟨F, ds, as, es, hF, hd, e, q⟩ := h
  obtain ⟨hl, e⟩ := mmOf_len e
  subst hN
  refine hv ⟨H, F, F⟩ ⟨H, F, F⟩ (L2.start N vs) (envOf N.length ds) _ as es ⟨Same.refl _, hF, fun _ _ e _ => e⟩ ⟨Same.refl _, Same.refl _, fun _ _ _ => rfl⟩ (sd_start hd) e ?_
  intro W p l xs us k u f a1 a2 a3 a4 a5 a6 a7 a8 a9
  exact q W.H W.F p l xs us u.h f k.fh u.fo a3 a4 a5 a1 a2 a6 a7 a8 a9
/-! the caller -/
abbrev GX := List D → List D → GS
def VX (K : PySem.W.Frag) (W0 : Wd) (E : XK) (i : Nat) (ts : TS) (g : GX) : Prop :=
  ∀ (W : Wd) (σ : L2.St) (c : Env) (D : Ends) (ds es : List VL.D) (p l : Addr) (vs us : List V), WOk W → Up W0 W → SD K W0 W σ c → σ[i]? = some (some (.ref p)) → W.H p = some (.lst (vs ++ [.ref l])) → W.H l = some (.lst us) →
    W.G p = none → W.G l = none → W0.H p = none → W0.H l = none → p ≠ l → DenL K W.F vs ds → DenL K W.F us es → Post K E W0 W.F D (g ds es c) → ts D σ W.H
def gMx (i : Nat) (m : List D → Option (List D × List D)) (ga : GA) (g : GX) : GS := fun c => match ga c with
  | some ds => match m ds with
    | some (as, es) => if i < c.length then g as es (c.set i none) else none
    | none => none
  | none => none
theorem vs_mx {i : Nat} {m : List D → Option (List D × List D)} {ts : TA} {ga : GA} {rest : TS} {g : GX} {E' : XK} (h : VArg K W0 true ts ga) (hx : VX K W0 E i rest g) :
    VS K W0 E (tSeq (tAsg (tCall (spM K m) [] E' ts) (gName i)) rest) (gMx i m ga g) := by
  intro W σ c D k u s q
  unfold gMx at q
  cases e : ga c with
  | none => rw [e] at q; exact q.elim
  | some ds =>
    simp only [e] at q
    refine h W σ c ds _ k u s e fun W1 vs k1 g1 d1 => ?_
    rw [List.append_nil]
    cases hm : m ds with
    | none => simp only [hm] at q; exact q.elim
    | some r =>
      obtain ⟨as, es⟩ := r
      simp only [hm] at q
      by_cases hi : i < c.length
      · rw [if_pos hi] at q
        refine ⟨W1.F, ds, as, es, k1.fh, d1, hm, fun H' F' p l xs us a1 a2 a3 a4 a5 a6 a7 a8 a9 b1 b2 b3 b4 => ?_⟩
        obtain ⟨k2, g2, f2⟩ := aft_ok (b := true) k1 a1 a2 a3 a4
        have Gp : ∀ a, W1.H a = none → F' a = none → (W1.aft true H' F').G a = none := fun a z y => by
          show (match W1.H a with | some _ => W1.G a | none => F' a) = none
          rw [z]; exact y
        refine hx (W1.aft true H' F') (σ.set i (some (.ref p))) (c.set i none) D as es p l xs us k2 ((u.gr g1).gr g2) (sd_set ((s.gr g1).gr g2) i _ none trivial fun l h => (noHold_none h).elim)
          (List.getElem?_set_self (by rw [s.len]; exact hi)) a8 a9 (Gp p a5 b1) (Gp l a6 b2) ((u.gr g1).h.free a5) ((u.gr g1).h.free a6) a7 (b3.up f2) (b4.up f2) (q.mono (g1.f.trans g2.f))
      · rw [if_neg hi] at q; exact q.elim
/-- a statement between: name j = a settled value -/
def gXAsg (i j : Nat) (ga : GE) (g : GX) : GX := fun ds es c => match ga c with
  | some d => if i = j then none else g ds es (c.set j (some (.fz d)))
  | none => none
theorem vx_asg {i j : Nat} {te : TE} {ga : GE} {rest : TS} {g : GX} (h : VT K W0 true te ga) (hx : VX K W0 E i rest g) : VX K W0 E i (tSeq (tAsg te (gName j)) rest) (gXAsg i j ga g) := by
  intro W σ c D ds es p l vs us k u s hσ a1 a2 a3 a4 a5 a6 a7 a8 a9 q
  unfold gXAsg at q
  cases e : ga c with
  | none => rw [e] at q; exact q.elim
  | some d =>
    simp only [e] at q
    by_cases hij : i = j
    · rw [if_pos hij] at q; exact q.elim
    · rw [if_neg hij] at q
      refine h W σ c d _ k u s e fun W1 v k1 g1 d1 => ?_
      exact hx W1 _ _ D ds es p l vs us k1 (u.gr g1) (sd_fz (s.gr g1) j d1) ((List.getElem?_set_ne (Ne.symm hij)).trans hσ) (g1.h _ _ a1) (g1.h _ _ a2) ((g1.go _ _ a1).trans a3) ((g1.go _ _ a2).trans a4) a5 a6 a7 (a8.up g1.f) (a9.up g1.f) (q.mono g1.f)
/-- .. and all is settled -/
def gXDone (i : Nat) (g : GS) : GX := fun ds es c => g (c.set i (some (.fz (.lst (ds ++ [.lst es])))))
def Wd.mx (W : Wd) (p l : Addr) (o u : HO) : Wd := ⟨W.H, upd (upd W.G p o) l u, upd (upd W.F p o) l u⟩
theorem mx_ok {W : Wd} {σ : L2.St} {c : Env} {i : Nat} {p l : Addr} {vs us : List V} {ds es : List D} (k : WOk W) (u : Up W0 W) (s : SD K W0 W σ c) (hσ : σ[i]? = some (some (.ref p))) (a1 : W.H p = some (.lst (vs ++ [.ref l]))) (a2 : W.H l = some (.lst us)) (a3 : W.G p = none) (a4 : W.G l = none) (a5 : W0.H p = none) (a6 : W0.H l = none) (a7 : p ≠ l) (a8 : DenL K W.F vs ds) (a9 : DenL K W.F us es) :
    WOk (W.mx p l (.lst (vs ++ [.ref l])) (.lst us)) ∧ Up W0 (W.mx p l (.lst (vs ++ [.ref l])) (.lst us)) ∧ Same W.F (W.mx p l (.lst (vs ++ [.ref l])) (.lst us)).F ∧ SD K W0 (W.mx p l (.lst (vs ++ [.ref l])) (.lst us)) σ (c.set i (some (.fz (.lst (ds ++ [.lst es]))))) := by
  have Fp : W.F p = none := k.fg.free a3
  have Fl : W.F l = none := k.fg.free a4
  have Fl2 : upd W.F p (.lst (vs ++ [.ref l])) l = none := (upd_ne (Ne.symm a7)).trans Fl
  have ff : Same W.F (upd (upd W.F p (.lst (vs ++ [.ref l]))) l (.lst us)) := (same_upd Fp).trans (same_upd Fl2)
  have Gne : ∀ a o, W.G a = some o → a ≠ p ∧ a ≠ l := fun a o z => ⟨ne_of_none z a3, ne_of_none z a4⟩
  have Hne : ∀ a o, W0.H a = some o → a ≠ p ∧ a ≠ l := fun a o z => ⟨ne_of_none z a5, ne_of_none z a6⟩
  have sH : ∀ a, a ≠ p → a ≠ l → ∀ (X : Hp), upd (upd X p (.lst (vs ++ [.ref l]))) l (.lst us) a = X a := fun a n1 n2 X => (upd_ne n2).trans (upd_ne n1)
  refine ⟨⟨same_upd2 (same_upd2 k.fg), fun a o z => ?_, fun a xs z ht => by
    have z' : upd (upd W.G p (.lst (vs ++ [.ref l]))) l (.lst us) a = some xs := z
    by_cases hl : a = l
    · subst hl; rw [upd_same] at z'; cases z'; cases ht
    · rw [upd_ne hl] at z'
      by_cases hp : a = p
      · subst hp; rw [upd_same] at z'; cases z'; cases ht
      · rw [upd_ne hp] at z'
        exact (sH a hp hl W.F).trans (k.gt a xs z' ht)⟩, ⟨u.h, u.f.trans ff, fun a o z => ?_⟩, ff, ?_⟩
  · have z' : upd (upd W.G p (.lst (vs ++ [.ref l]))) l (.lst us) a = some o := z
    by_cases hl : a = l
    · subst hl; rw [upd_same] at z'; cases z'; exact a2
    · rw [upd_ne hl] at z'
      by_cases hp : a = p
      · subst hp; rw [upd_same] at z'; cases z'; exact a1
      · rw [upd_ne hp] at z'; exact k.gh a o z'
  · obtain ⟨n1, n2⟩ := Hne a o z
    exact (sH a n1 n2 W.F).trans (u.fo a o z)
  · have s1 : SD K W0 (W.mx p l (.lst (vs ++ [.ref l])) (.lst us)) σ c := by
      refine ⟨s.len, fun j x y h1 h2 => ?_, s.one⟩
      have okc := s.ok j x y h1 h2
      cases y with
      | none => trivial
      | some cl =>
        cases cl with
        | fz d => obtain ⟨v, e1, e2⟩ := okc; exact ⟨v, e1, e2.up ff⟩
        | own es' =>
          obtain ⟨l2, us2, e1, e2, e3, e4, e5, e6⟩ := okc
          obtain ⟨n1, n2⟩ := Gne _ _ e3
          exact ⟨l2, us2, e1, e2, (sH _ n1 n2 W.G).trans e3, (sH _ n1 n2 W.F).trans e4, e5, e6.up ff⟩
        | exc C ns es' =>
          obtain ⟨fs, e1, e2, e3, e4⟩ := okc
          exact ⟨fs, e1, e2, e3, e4.up ff⟩
        | slf C ns es' =>
          obtain ⟨fs, e1, e2, e3, e4, e5, e6, e7⟩ := okc
          have n1 : W0.sa ≠ p := ne_of e2 a1 (by intro z; cases z)
          have n2 : W0.sa ≠ l := ne_of e2 a2 (by intro z; cases z)
          exact ⟨fs, e1, e2, (sH _ n1 n2 W.G).trans e3, (sH _ n1 n2 W.F).trans e4, e5, e6, e7.up ff⟩
    have hi : i < σ.length := (List.getElem?_eq_some_iff.mp hσ).1
    have eσ : σ.set i (some (.ref p)) = σ := by
      apply List.ext_getElem?
      intro j
      by_cases hij : i = j
      · subst hij; rw [List.getElem?_set_self hi]; exact hσ.symm
      · rw [List.getElem?_set_ne hij]
    have den : Den K (upd (upd W.F p (.lst (vs ++ [.ref l]))) l (.lst us)) (.ref p) (.lst (ds ++ [.lst es])) :=
      .lst (by rw [upd_ne a7, upd_same]) ((a8.up ff).append (.cons (.lst upd_same (a9.up ff)) .nil))
    have := sd_fz (W := W.mx p l (.lst (vs ++ [.ref l])) (.lst us)) s1 i den
    rw [eσ] at this
    exact this
theorem vx_done {i : Nat} {rest : TS} {g : GS} (h : VS K W0 E rest g) : VX K W0 E i rest (gXDone i g) := by
  intro W σ c D ds es p l vs us k u s hσ a1 a2 a3 a4 a5 a6 a7 a8 a9 q
  obtain ⟨k2, u2, f2, s2⟩ := mx_ok k u s hσ a1 a2 a3 a4 a5 a6 a7 a8 a9
  exact h (W.mx p l (.lst (vs ++ [.ref l])) (.lst us)) σ _ D k2 u2 s2 (q.mono f2)
/-- an int is read, all looked at as settled, and forgotten again -/
theorem vx_int {W : Wd} {σ : L2.St} {c : Env} {i : Nat} {p l : Addr} {vs us : List V} {ds es : List D} {te : TE} {ga : GE} {n : Int} {Q : VK} (h : VT K W0 b te ga) (k : WOk W) (u : Up W0 W) (s : SD K W0 W σ c) (hσ : σ[i]? = some (some (.ref p))) (a1 : W.H p = some (.lst (vs ++ [.ref l]))) (a2 : W.H l = some (.lst us)) (a3 : W.G p = none) (a4 : W.G l = none) (a5 : W0.H p = none) (a6 : W0.H l = none) (a7 : p ≠ l) (a8 : DenL K W.F vs ds) (a9 : DenL K W.F us es)
    (e : ga (c.set i (some (.fz (.lst (ds ++ [.lst es]))))) = some (.int n)) (q : ∀ W', WOk W' → Gr W W' → Q (.int n) W'.H) : te σ W.H Q := by
  obtain ⟨k2, u2, f2, s2⟩ := mx_ok k u s hσ a1 a2 a3 a4 a5 a6 a7 a8 a9
  refine h (W.mx p l (.lst (vs ++ [.ref l])) (.lst us)) σ _ _ _ k2 u2 s2 e fun W' v k' g' hd => ?_
  cases hd
  let cut : Hp → Hp := fun X a => if a = p ∨ a = l then none else X a
  have cutS : ∀ X Y : Hp, Same X Y → Same (cut X) (cut Y) := fun X Y z a o y => by
    have y' : (if a = p ∨ a = l then none else X a) = some o := y
    show (if a = p ∨ a = l then none else Y a) = some o
    split at y'
    · cases y'
    · rename_i hn; rw [if_neg hn]; exact z a o y'
  have cutL : ∀ X : Hp, Same (cut X) X := fun X a o y => by
    have y' : (if a = p ∨ a = l then none else X a) = some o := y
    split at y'
    · cases y'
    · exact y'
  have inC : ∀ (X : Hp) a, a ≠ p → a ≠ l → cut X a = X a := fun X a n1 n2 => if_neg (fun z => z.elim n1 n2)
  have Fp : W.F p = none := k.fg.free a3
  have Fl : W.F l = none := k.fg.free a4
  have sH : ∀ a, a ≠ p → a ≠ l → ∀ (X : Hp), upd (upd X p (.lst (vs ++ [.ref l]))) l (.lst us) a = X a := fun a n1 n2 X => (upd_ne n2).trans (upd_ne n1)
  refine q ⟨W'.H, cut W'.G, cut W'.F⟩ ⟨cutS _ _ k'.fg, (cutL _).trans k'.gh, fun a xs z ht => by
      have z' : (if a = p ∨ a = l then none else W'.G a) = some xs := z
      show (if a = p ∨ a = l then none else W'.F a) = _
      split at z'
      · cases z'
      · rename_i hn; rw [if_neg hn]; exact k'.gt a xs z' ht⟩ ⟨g'.h, fun a o z => ?_, fun a o z => ?_, fun a o z => ?_, fun a o z => ?_⟩
  · have n1 := ne_of_none z a3; have n2 := ne_of_none z a4
    show cut W'.G a = some o
    rw [inC _ _ n1 n2]; exact g'.g a o ((sH a n1 n2 W.G).trans z)
  · have n1 := ne_of_none z Fp; have n2 := ne_of_none z Fl
    show cut W'.F a = some o
    rw [inC _ _ n1 n2]; exact g'.f a o ((sH a n1 n2 W.F).trans z)
  · show cut W'.G a = W.G a
    by_cases n1 : a = p
    · rw [n1, a3]; exact if_pos (.inl rfl)
    by_cases n2 : a = l
    · rw [n2, a4]; exact if_pos (.inr rfl)
    rw [inC _ _ n1 n2]; exact (g'.go a o z).trans (sH a n1 n2 W.G)
  · show cut W'.F a = W.F a
    by_cases n1 : a = p
    · rw [n1, Fp]; exact if_pos (.inl rfl)
    by_cases n2 : a = l
    · rw [n2, Fl]; exact if_pos (.inr rfl)
    rw [inC _ _ n1 n2]; exact (g'.fo a o z).trans (sH a n1 n2 W.F)
/-- if t: x[k].append(x[k][e]), k tells the last item -/
def gXApp (i : Nat) (k : Int) (tst : GB) (ge : GE) (g : GX) : GX := fun ds es c => match tst c with
  | some false => g ds es c
  | some true => if k = ds.length then match ge (c.set i (some (.fz (.lst (ds ++ [.lst es]))))) with
    | some (.int n) => match atI es n with
      | some d => if es.length < sizeLine then g ds (es ++ [d]) c else none
      | none => none
    | _ => none
    else none
  | none => none
theorem atI_last {α : Type} {xs : List α} {x : α} {k : Int} (h : k = xs.length) : atI (xs ++ [x]) k = some x := by
  subst h
  unfold atI ixN
  have h1 : ¬ ((xs.length : Int) < 0) := by omega
  have h2 : (xs.length : Int) < ((xs ++ [x]).length : Nat) := by simp; omega
  simp
  rw [if_pos (by omega)]
  simp
theorem vx_app {i : Nat} {kk : Int} {tt : TT} {tst : GB} {te : TE} {ge : GE} {rest : TS} {g : GX} (ht : VB K W0 tt tst) (he : VT K W0 b te ge) (hx : VX K W0 E i rest g) :
    VX K W0 E i (tSeq (tIfS tt (tDrop (tBM K "list" rAppend (tOp (rIx K) (tVar i) (tC (.int kk))) (tCons (tOp (rIx K) (tOp (rIx K) (tVar i) (tC (.int kk))) te) tNil))) tNext) rest) (gXApp i kk tst ge g) := by
  intro W σ c D ds es p l vs us k u s hσ a1 a2 a3 a4 a5 a6 a7 a8 a9 q
  unfold gXApp at q
  cases e : tst c with
  | none => rw [e] at q; exact q.elim
  | some t =>
    refine ht W σ c t _ k u s e fun W1 k1 g1 => ?_
    have c1 : W1.H p = some (.lst (vs ++ [.ref l])) := g1.h _ _ a1
    have c2 : W1.H l = some (.lst us) := g1.h _ _ a2
    have c3 : W1.G p = none := (g1.go _ _ a1).trans a3
    have c4 : W1.G l = none := (g1.go _ _ a2).trans a4
    have c8 := a8.up g1.f
    have c9 := a9.up g1.f
    cases t with
    | false =>
      rw [if_neg Bool.false_ne_true]
      simp only [e] at q
      exact hx W1 σ c D ds es p l vs us k1 (u.gr g1) (s.gr g1) hσ c1 c2 c3 c4 a5 a6 a7 c8 c9 (q.mono g1.f)
    | true =>
      rw [if_pos rfl]
      simp only [e] at q
      by_cases hk : kk = ds.length
      · rw [if_pos hk] at q
        have hk' : kk = vs.length := by rw [a8.length]; exact hk
        split at q
        · rename_i n hn
          cases e3 : atI es n with
          | none => simp only [e3] at q; exact q.elim
          | some d =>
            simp only [e3] at q
            by_cases hz : es.length < sizeLine
            · rw [if_pos hz] at q
              refine ⟨_, hσ, .inl ⟨p, _, kk, _, rfl, rfl, SqL.of c1, atI_last hk', .inl ⟨rfl, _, SqL.of c2⟩, _, hσ, .inl ⟨p, _, kk, _, rfl, rfl, SqL.of c1, atI_last hk', ?_⟩⟩⟩
              refine vx_int he k1 (u.gr g1) (s.gr g1) hσ c1 c2 c3 c4 a5 a6 a7 c8 c9 hn fun W2 k2 g2 => ?_
              have c92 := c9.up g2.f
              obtain ⟨v, hv, dv⟩ := denL_atI c92 e3
              refine .inl ⟨l, us, n, v, rfl, rfl, SqL.of (g2.h _ _ c2), hv, ?_⟩
              refine ⟨l, us, v, rfl, rfl, g2.h _ _ c2, by rw [c92.length]; exact hz, ?_⟩
              have G2l : W2.G l = none := (g2.go _ _ c2).trans c4
              have G2p : W2.G p = none := (g2.go _ _ c1).trans c3
              have neG : ∀ a o, W2.G a = some o → a ≠ l := fun a o z => ne_of_none z G2l
              have u2 := (u.gr g1).gr g2
              have s2 := (s.gr g1).gr g2
              refine hx ⟨upd W2.H l (.lst (us ++ [v])), W2.G, W2.F⟩ σ c D ds (es ++ [d]) p l vs (us ++ [v]) ⟨k2.fg, fun a o z => (upd_ne (neG a o z)).trans (k2.gh a o z), k2.gt⟩ ⟨fun a o z => (upd_ne (ne_of_none z a6)).trans (u2.h a o z), u2.f, u2.fo⟩ ?_ hσ ((upd_ne a7).trans (g2.h _ _ c1)) upd_same G2p G2l a5 a6 a7 (c8.up g2.f) (c92.append (.cons dv .nil)) (q.mono (g1.f.trans g2.f))
              refine ⟨s2.len, fun j x y h1 h2 => ?_, s2.one⟩
              have okc := s2.ok j x y h1 h2
              cases y with
              | none => trivial
              | some cl =>
                cases cl with
                | fz d => exact okc
                | own es' =>
                  obtain ⟨l2, us2, e1, e2, e3, e4, e5, e6⟩ := okc
                  exact ⟨l2, us2, e1, (upd_ne (neG _ _ e3)).trans e2, e3, e4, e5, e6⟩
                | exc C ns es' =>
                  obtain ⟨fs, e1, e2, e3, e4⟩ := okc
                  exact ⟨fs, e1, (upd_ne (ne_of e2 (g2.h _ _ c2) (by intro z; cases z))).trans e2, e3, e4⟩
                | slf C ns es' =>
                  obtain ⟨fs, e1, e2, e3, e4, e5, e6, e7⟩ := okc
                  exact ⟨fs, e1, (upd_ne (ne_of e2 (g2.h _ _ c2) (by intro z; cases z))).trans e2, e3, e4, e5, e6, e7⟩
            · rw [if_neg hz] at q; exact q.elim
        · exact q.elim
      · rw [if_neg hk] at q; exact q.elim
/-- a + b of lists: a new list -/
def gCat (ga gb : GE) : GA := fun c => match ga c with
  | some (.lst a) => match gb c with
    | some (.lst b) => if a.length + b.length ≤ sizeLine then some (a ++ b) else none
    | _ => none
  | _ => none
theorem vn_cat {ta tb : TE} {ga gb : GE} (h1 : VT K W0 true ta ga) (h2 : VT K W0 true tb gb) : VN K W0 (tOp (rAddU K) ta tb) (gCat ga gb) := by
  intro W σ c ds Q k u s e q
  unfold gCat at e
  split at e
  · rename_i a ha
    split at e
    · rename_i b hb
      split at e
      · rename_i hz
        cases e
        refine h1 W σ c _ _ k u s ha fun W1 v1 k1 g1 d1 => ?_
        refine h2 W1 σ c _ _ k1 (u.gr g1) (s.gr g1) hb fun W2 v2 k2 g2 d2 => ?_
        cases d1 with
        | lst e1 e2 =>
          cases d2 with
          | lst e3 e4 =>
            refine .inr (.inr (.inl ⟨_, _, _, _, rfl, rfl, k2.fh _ _ (g2.f _ _ e1), k2.fh _ _ e3, by rw [e2.length, e4.length]; exact hz, fun p hp => ?_⟩))
            exact q W2 p _ k2 (g1.trans g2) hp ((e2.up g2.f).append e4)
      · cases e
    · cases e
  · cases e
theorem exm_same {K : PySem.W.Frag} {C : Addr} (e : PySem.W.subIn K (.ref C) (.type "BaseException") = some true) (i : PySem.W.isClsIn K C = true) (t : PySem.W.typeIn K (.ref C) = some (.type "type")) (s : PySem.W.subIn K (.ref C) (.ref C) = some true) : PySem.W.exmOne K (.ref C) (.ref C) = some true := by
  have i' : (PySem.W.clsIn K C).isSome = true := i
  unfold PySem.W.exmOne
  rw [e]
  refine (if_pos (by simp)).trans ?_
  unfold PySem.W.kitCls
  simp [i', t, s]
end
end VL
end

section
/-! VY: values that cannot change; str, join, count; raising calls inside expressions; try. -/
namespace VL
open PySem PySem.Spec PyProof.Rows L2
/-! ### what cannot change is settled -/
mutual
def D.imm : D → Bool
  | .non => true | .bl _ => true | .int _ => true | .str _ => true
  | .tup ds => D.immL ds
  | .lst _ => false | .scr _ => false | .ins _ _ _ => false
def D.immL : List D → Bool
  | [] => true
  | d :: ds => D.imm d && D.immL ds
end
section
variable {K : PySem.W.Frag} {W0 W : Wd} {E : XK} {b b' b1 b2 : Bool}
theorem sqT_imm (k : WOk W) {a : Addr} {xs : List V} (h : SqT K W.G a xs) : SqT K W.F a xs := by
  rcases h with (h | ⟨o, h⟩) | h
  · exact .inl (.inl (k.gt _ _ h rfl))
  · exact .inl (.inr ⟨o, k.gt _ _ h rfl⟩)
  · exact .inr h
mutual
theorem den_imm (k : WOk W) : ∀ (d : D) (v : V), D.imm d = true → Den K W.G v d → Den K W.F v d
  | .non, _, _, h => by cases h; exact .non
  | .bl b, _, _, h => by cases h; exact .bl b
  | .int i, _, _, h => by cases h; exact .int i
  | .str x, _, _, h => by cases h; exact .str x
  | .tup ds, _, e, h => by
    cases h with
    | tup h1 h2 => exact .tup (sqT_imm k h1) (denL_imm k ds _ (by simpa [D.imm] using e) h2)
  | .lst _, _, e, _ => by simp [D.imm] at e
  | .scr _, _, e, _ => by simp [D.imm] at e
  | .ins _ _ _, _, e, _ => by simp [D.imm] at e
theorem denL_imm (k : WOk W) : ∀ (ds : List D) (vs : List V), D.immL ds = true → DenL K W.G vs ds → DenL K W.F vs ds
  | [], _, _, h => by cases h; exact .nil
  | d :: ds, _, e, h => by
    simp only [D.immL, Bool.and_eq_true] at e
    cases h with
    | cons h1 h2 => exact .cons (den_imm k d _ e.1 h1) (denL_imm k ds _ e.2 h2)
end
def gImm (g : GE) : GE := fun c => match g c with
  | some d => if d.imm = true then some d else none
  | none => none
theorem vt_imm {te : TE} {g : GE} (h : VT K W0 b' te g) : VT K W0 b te (gImm g) := by
  intro W σ c d Q k u s e q
  unfold gImm at e
  split at e
  · rename_i x hx
    split at e
    · rename_i hi
      cases e
      refine h W σ c _ Q k u s hx fun W' v k' g' hd => q W' v k' g' ?_
      have hF : Den K W'.F v d := den_imm k' d v hi (hd.up (by cases b'; exact Same.refl _; exact k'.fg))
      exact hF.up (by cases b; exact k'.fg; exact Same.refl _)
    · cases e
  · cases e
/-! ### str(x), x an int or a text -/
def rStrU : List V → Hp → VK → Prop := fun xs H Q => (∃ i, xs = [.int i] ∧ i.natAbs.log2 < 1920 ∧ Q (.str (toString i)) H) ∨ ∃ a, xs = [.str a] ∧ Q (.str a) H
theorem call_strU {X : Cx} : CallR X (.type "str") rStrU := by
  intro pins s σ H xs us Q I r h
  rcases h with h | h
  · exact call_str_int pins s σ H xs us Q I r h
  · exact _root_.SkE.call_str_str pins s σ H xs us Q I r h
def fStr : List D → Option D
  | [.int i] => if i.natAbs.log2 < 1920 then some (.str (toString i)) else none
  | [.str a] => some (.str a)
  | _ => none
theorem rcs_str : RCS K rStrU fStr := by
  intro W xs ds z Q k hd hf q
  unfold fStr at hf
  split at hf
  · split at hf
    · rename_i hz
      cases hf
      cases hd with
      | cons h1 h2 => cases h1; cases h2; exact .inl ⟨_, rfl, hz, q _ fun H => .str _⟩
    · cases hf
  · cases hf
    cases hd with
    | cons h1 h2 => cases h1; cases h2; exact .inr ⟨_, rfl, q _ fun H => .str _⟩
  · cases hf
/-! ### a.join(x) -/
def rJoinU (K : PySem.W.Frag) : V → List V → Hp → VK → Prop := fun x xs H Q => ∃ a p, ∃ ys : List Str, x = .str a ∧ xs = [.ref p] ∧ (SqL K H p (ys.map V.str) ∨ SqT K H p (ys.map V.str)) ∧
  (ys.map (·.length)).sum + ys.length * a.length ≤ 16777216 ∧ Q (.str (Txt.join a ys)) H
theorem pe_joinU {X : Cx} {o e : Expr} {to te : TE} {apos pos : Pos} (hK : X.K = K) (ho : PE X o to) (he : PE X e te) (hs : starEach [e] X.env = [(false, eval e X.env)] := by rfl) (hbase : attributeBase o "join" X.env (eval o X.env) = eval o X.env := by rfl) (hline : (apos.endLine == pos.line) = true := by rfl) :
    PE X (.Call (.Attribute o "join" apos) [e] [] pos) (tM1 (rJoinU K) to te) := by
  subst hK
  exact pe_join ho he hs hbase hline
def strsOf : List D → Option (List Str)
  | [] => some []
  | .str x :: ds => match strsOf ds with
    | some xs => some (x :: xs)
    | none => none
  | _ :: _ => none
theorem strsOf_map : ∀ {ds : List D} {xs : List Str}, strsOf ds = some xs → ds = xs.map D.str
  | [], xs, h => by cases h; rfl
  | d :: ds, xs, h => by
    unfold strsOf at h
    split at h
    · rename_i q; cases q
    · rename_i x es q
      cases q
      split at h
      · rename_i ys hy
        cases h
        rw [strsOf_map hy]; rfl
      · cases h
    · cases h
def dJoin : D → D → Option D
  | .str a, d => match d.items with
    | some ds => match strsOf ds with
      | some ys => if (ys.map (·.length)).sum + ys.length * a.length ≤ 16777216 then some (.str (Txt.join a ys)) else none
      | none => none
    | none => none
  | _, _ => none
theorem vt_join {to te : TE} {ga gb : GE} (h1 : VT K W0 b1 to ga) (h2 : VT K W0 b2 te gb) : VT K W0 b (tM1 (rJoinU K) to te) (g2 dJoin ga gb) := by
  intro W σ c d Q k u s e q
  obtain ⟨x, y, ex, ey, ef⟩ := g2_some e
  refine h1 W σ c x _ k u s ex fun W1 v1 k1 g1 d1 => ?_
  cases x with
  | str a =>
    cases d1
    refine ⟨⟨a, rfl⟩, h2 W1 σ c y _ k1 (u.gr g1) (s.gr g1) ey fun W2 v2 k2 g2 d2 => ?_⟩
    unfold dJoin at ef
    simp only at ef
    split at ef
    · rename_i ds hds
      split at ef
      · rename_i ys hys
        split at ef
        · rename_i hz
          cases ef
          obtain ⟨p, xs, rfl, hq, hdl⟩ := den_items (d2.up (k2.atH b2)) hds
          rw [strsOf_map hys] at hdl
          have := hdl.strs
          subst this
          exact ⟨a, p, ys, rfl, rfl, hq, hz, q W2 _ k2 (g1.trans g2) (.str _)⟩
        · cases ef
      · cases ef
    · cases ef
  | _ => cases ef
/-! ### x.count(e) of a list of flat values -/
def rCntU (K : PySem.W.Frag) : V → List V → Hp → VK → Prop := fun x xs H Q => ∃ (p : Addr) (ys : List V) (z : V), x = .ref p ∧ xs = [z] ∧ flatV z = true ∧ ys.all flatV = true ∧ SqL K H p ys ∧ Q (.int (ys.countP fun y => eqV y z : Nat)) H
def cntV (z : V) (u : Value) : Bool := match absV u with
  | some y => eqV y z
  | none => false
theorem cnt_rel {z y : V} {u : Value} (f : flatV y = true) (r : RelV y u) : cntV z u = eqV y z := by
  cases y with
  | non => cases r; rfl
  | bl b => cases r; rfl
  | int i => obtain ⟨t, rfl⟩ := r; rfl
  | str x => obtain ⟨t, rfl⟩ := r; rfl
  | _ => exact absurd (show false = true from f) Bool.false_ne_true
theorem cnt_all {z : V} : ∀ {us : List Value} {ys : List V}, ys.all flatV = true → Vals ys us → us.countP (cntV z) = ys.countP fun y => eqV y z
  | _, _, _, .nil => rfl
  | _, _, f, .cons r h => by
    rw [List.all_cons, Bool.and_eq_true] at f
    rw [List.countP_cons, List.countP_cons, cnt_all f.2 h, cnt_rel f.1 r]
theorem cnt_at {A : Around} {s : Shared} {z : V} {w : Value} (fz : flatV z = true) (rz : RelV z w) : ∀ {us : List Value} {ys : List V}, ys.all flatV = true → Vals ys us → ∀ u ∈ us, SeqAt.EqAt A s u w (cntV z u)
  | _, _, _, .nil => fun u hu => by cases hu
  | _, _, f, .cons r h => fun u hu => by
    rw [List.all_cons, Bool.and_eq_true] at f
    rcases List.mem_cons.mp hu with e | e
    · rw [e, cnt_rel f.1 r]
      exact eqAt_V r rz f.1 fz
    · exact cnt_at fz rz f.2 h u e
theorem mt_cntU {X : Cx} : MtR X "list.count" (rCntU X.K) := by
  intro pins s σ H x xs v us Q I rx rxs h
  obtain ⟨p, ys, z, rfl, rfl, fz, fy, hs, q⟩ := h
  cases rx
  obtain ⟨u, rfl, ru⟩ := rxs.one
  obtain ⟨its, rv, ⟨⟨cls, dd, data, sl⟩, n, ho, hc, hdn, hd⟩, hlen⟩ := I.list hs
  simp only at hc hd
  subst hc hd
  refine call_meets PySem.F.slot_list_count ⟨_, ho, rfl⟩ PySem.F.entry_list_count (PySem.F.args_list_count_2 _ _)
    (SeqAt.list_countAt p its.toArray n dd sl u (cntV z)) ⟨ho, fun y hy => cnt_at fz ru fy rv y (by simpa using hy), ?_⟩
  have ec : its.toArray.toList.countP (cntV z) = ys.countP fun y => eqV y z := cnt_all fy rv
  refine ⟨.int (ys.countP fun y => eqV y z : Nat), H, I.tok _, ⟨s.toks, ?_⟩, q⟩
  show Value.int ((its.toArray.toList.countP (cntV z) : Nat) : Int) s.toks = _
  rw [ec]
def dCnt (x z : D) : Option D := match x with
  | .lst ds => if z.scal = true ∧ ds.all D.scal = true then some (.int ((ds.map D.toV).countP fun y => eqV y z.toV : Nat)) else none
  | .scr ds => if z.scal = true ∧ ds.all D.scal = true then some (.int ((ds.map D.toV).countP fun y => eqV y z.toV : Nat)) else none
  | _ => none
theorem vt_cnt {to te : TE} {ga gb : GE} (h1 : VT K W0 b1 to ga) (h2 : VT K W0 b2 te gb) : VT K W0 b (tBM K "list" (rCntU K) to (tCons te tNil)) (g2 dCnt ga gb) := by
  intro W σ c d Q k u s e q
  obtain ⟨x, z, ex, ez, ef⟩ := g2_some e
  refine h1 W σ c x _ k u s ex fun W1 v1 k1 g1 d1 => ?_
  have fin : ∀ (a : Addr) (xs : List V) (ds : List D), v1 = .ref a → SqL K (W1.at b1) a xs → DenL K (W1.at b1) xs ds → (z.scal = true ∧ ds.all D.scal = true) → d = .int ((ds.map D.toV).countP fun y => eqV y z.toV : Nat) →
      (tyV K "list" v1 W1.H ∧ (tCons te tNil) σ W1.H fun xs H2 => rCntU K v1 xs H2 Q) := by
    rintro a xs ds rfl hq hd ⟨hz1, hz2⟩ rfl
    refine ⟨.inl ⟨rfl, xs, (k1.atH b1).seq hq⟩, h2 W1 σ c z _ k1 (u.gr g1) (s.gr g1) ez fun W2 v2 k2 g2 d2 => ?_⟩
    rw [den_scal d2 hz1]
    have hx := denL_scal hd hz2
    refine ⟨a, xs, z.toV, rfl, rfl, flat_toV z, by rw [hx]; exact flat_all ds, ((k1.atH b1).trans g2.h).seq hq, ?_⟩
    rw [hx]
    exact q W2 _ k2 (g1.trans g2) (.int _)
  unfold dCnt at ef
  split at ef
  · split at ef
    · rename_i hz
      cases ef
      cases d1 with
      | lst e1 e2 => exact fin _ _ _ rfl (SqL.of e1) e2 hz rfl
    · cases ef
  · split at ef
    · rename_i hz
      cases ef
      cases d1 with
      | scr e1 e2 => exact fin _ _ _ rfl e1 e2 hz rfl
    · cases ef
  · cases ef
/-! ### expressions that may raise -/
def XP (K : PySem.W.Frag) (W : Wd) (E : XK) (b : Bool) (Q : VK) : Option Res → Prop
  | none => False
  | some (.val d) => ∀ W' v, WOk W' → Gr W W' → Den K (W'.at b) v d → Q v W'.H
  | some (.exn C ns ds) => ∀ W' dx fs, WOk W' → Gr W W' → W'.H dx = some (.xd fs) → W.H dx = none → fs.map (·.1) = ns → DenL K W'.F (fs.map (·.2)) ds → E (.ref C) (some dx) W'.H
abbrev GR := Env → Option Res
def VTX (K : PySem.W.Frag) (W0 : Wd) (E : L2.St → XK) (b : Bool) (te : TE) (g : GR) : Prop :=
  ∀ (W : Wd) (σ : L2.St) (c : Env) (Q : VK), WOk W → Up W0 W → SD K W0 W σ c → XP K W (E σ) b Q (g c) → te σ W.H Q
def XPs (K : PySem.W.Frag) (W : Wd) (E : XK) (b : Bool) (Q : List V → Hp → Prop) : Option (List D ⊕ (Addr × List Str × List D)) → Prop
  | none => False
  | some (.inl ds) => ∀ W' vs, WOk W' → Gr W W' → DenL K (W'.at b) vs ds → Q vs W'.H
  | some (.inr (C, ns, ds)) => ∀ W' dx fs, WOk W' → Gr W W' → W'.H dx = some (.xd fs) → W.H dx = none → fs.map (·.1) = ns → DenL K W'.F (fs.map (·.2)) ds → E (.ref C) (some dx) W'.H
abbrev GRs := Env → Option (List D ⊕ (Addr × List Str × List D))
def VAX (K : PySem.W.Frag) (W0 : Wd) (E : L2.St → XK) (b : Bool) (ta : TA) (g : GRs) : Prop :=
  ∀ (W : Wd) (σ : L2.St) (c : Env) (Q : List V → Hp → Prop), WOk W → Up W0 W → SD K W0 W σ c → XPs K W (E σ) b Q (g c) → ta σ W.H Q
variable {Ex : L2.St → XK}
def gVal (g : GE) : GR := fun c => match g c with
  | some d => some (.val d)
  | none => none
theorem vtx_val {te : TE} {g : GE} (h : VT K W0 b te g) : VTX K W0 Ex b te (gVal g) := by
  intro W σ c Q k u s q
  unfold gVal at q
  cases e : g c with
  | none => rw [e] at q; exact q.elim
  | some d => rw [e] at q; exact h W σ c d Q k u s e q
def gCallR (m : List D → Option Res) (ga : GA) : GR := fun c => match ga c with
  | some ds => m ds
  | none => none
theorem vtx_res {m : List D → Option Res} {W1 : Wd} {vs : List V} {ds : List D} {Q : VK} {E' : XK} (k1 : WOk W1) (d1 : DenL K W1.F vs ds) (q : XP K W1 E' true Q (m ds)) : spP K m vs W1.H Q E' := by
  cases e2 : m ds with
  | none => rw [e2] at q; exact q.elim
  | some r =>
    rw [e2] at q
    cases r with
    | val d =>
      refine ⟨W1.F, ds, .val d, k1.fh, d1, e2, fun H' F' v a1 a2 a3 a4 a5 => ?_⟩
      obtain ⟨k2, g2, f2⟩ := aft_ok (b := true) k1 a1 a2 a3 a4
      exact q (W1.aft true H' F') v k2 g2 (a5.up f2)
    | exn C ns es =>
      refine ⟨W1.F, ds, .exn C ns es, k1.fh, d1, e2, fun H' F' dx fs a1 a2 a3 a4 a5 a6 a7 a8 => ?_⟩
      obtain ⟨k2, g2, f2⟩ := aft_ok (b := true) k1 a1 a2 a3 a4
      exact q (W1.aft true H' F') dx fs k2 g2 a6 a5 a7 (a8.up f2)
theorem xp_gr {W W1 : Wd} {E' : XK} {Q : VK} (g : Gr W W1) : ∀ {r : Option Res}, XP K W E' b Q r → XP K W1 E' b Q r
  | none, q => q
  | some (.val d), q => fun W' v k' g' hd => q W' v k' (g.trans g') hd
  | some (.exn C ns ds), q => fun W' dx fs k' g' h1 h2 => q W' dx fs k' (g.trans g') h1 (g.h.free h2)
theorem xps_gr {W W1 : Wd} {E' : XK} {Q : List V → Hp → Prop} (g : Gr W W1) : ∀ {r : Option (List D ⊕ (Addr × List Str × List D))}, XPs K W E' b Q r → XPs K W1 E' b Q r
  | none, q => q
  | some (.inl d), q => fun W' v k' g' hd => q W' v k' (g.trans g') hd
  | some (.inr (C, ns, ds)), q => fun W' dx fs k' g' h1 h2 => q W' dx fs k' (g.trans g') h1 (g.h.free h2)
theorem vtx_call {m : List D → Option Res} {ts : TA} {ga : GA} (h : VArg K W0 true ts ga) : VTX K W0 (fun _ => E) true (tCall (spP K m) [] E ts) (gCallR m ga) := by
  intro W σ c Q k u s q
  unfold gCallR at q
  cases e : ga c with
  | none => rw [e] at q; exact q.elim
  | some ds =>
    rw [e] at q
    refine h W σ c ds _ k u s e fun W1 vs k1 g1 d1 => ?_
    rw [List.append_nil]
    exact vtx_res k1 d1 (xp_gr g1 q)
theorem vtx_callS {m : List D → Option Res} {ts : TA} {ga : GA} (h : VArg K W0 true ts ga) : VTX K W0 Ex true (tCallS (spP K m) Ex ts) (gCallR m ga) := by
  intro W σ c Q k u s q
  unfold gCallR at q
  cases e : ga c with
  | none => rw [e] at q; exact q.elim
  | some ds =>
    rw [e] at q
    exact h W σ c ds _ k u s e fun W1 vs k1 g1 d1 => vtx_res k1 d1 (xp_gr g1 q)
def gXNil : GRs := fun _ => some (.inl [])
def gXCons (g : GR) (gs : GRs) : GRs := fun c => match g c with
  | some (.val d) => match gs c with
    | some (.inl ds) => some (.inl (d :: ds))
    | r => r
  | some (.exn C ns ds) => some (.inr (C, ns, ds))
  | none => none
theorem vax_nil : VAX K W0 Ex b tNil gXNil := fun W σ c Q k u s q => q W [] k (Gr.refl W) .nil
theorem vax_cons {te : TE} {ts : TA} {g : GR} {gs : GRs} (h : VTX K W0 Ex b te g) (hs : VAX K W0 Ex b ts gs) : VAX K W0 Ex b (tCons te ts) (gXCons g gs) := by
  intro W σ c Q k u s q
  refine h W σ c _ k u s ?_
  unfold gXCons at q
  cases e : g c with
  | none => rw [e] at q; exact q.elim
  | some r =>
    rw [e] at q
    cases r with
    | exn C ns ds => exact q
    | val d =>
      intro W1 v k1 g1 d1
      refine hs W1 σ c _ k1 (u.gr g1) (s.gr g1) ?_
      simp only at q
      cases e2 : gs c with
      | none => rw [e2] at q; exact q.elim
      | some r2 =>
        rw [e2] at q
        cases r2 with
        | inl ds => exact fun W2 vs k2 g2 d2 => q W2 (v :: vs) k2 (g1.trans g2) (.cons (d1.up (g2.at b)) d2)
        | inr z =>
          obtain ⟨C, ns, ds⟩ := z
          exact fun W2 dx fs k2 g2 h1 h2 => q W2 dx fs k2 (g1.trans g2) h1 (g1.h.free h2)
def gXTup (gs : GRs) : GR := fun c => match gs c with
  | some (.inl ds) => if ds.length ≤ sizeLine then some (.val (.tup ds)) else none
  | some (.inr (C, ns, ds)) => some (.exn C ns ds)
  | none => none
theorem vtx_tup {ts : TA} {gs : GRs} (h : VAX K W0 Ex b ts gs) : VTX K W0 Ex b (tTup ts) (gXTup gs) := by
  intro W σ c Q k u s q
  refine h W σ c _ k u s ?_
  unfold gXTup at q
  cases e : gs c with
  | none => rw [e] at q; exact q.elim
  | some r =>
    rw [e] at q
    cases r with
    | inr z => obtain ⟨C, ns, ds⟩ := z; exact q
    | inl ds =>
      simp only at q
      by_cases hz : ds.length ≤ sizeLine
      · rw [if_pos hz] at q
        intro W1 vs k1 g1 d1
        refine ⟨by rw [d1.length]; exact hz, fun p hp => ?_⟩
        exact q (W1.new b p (.tup vs)) _ (new_ok k1 hp) (g1.trans (new_gr k1 hp)) (.tup (SqT.of new_self) (new_denL k1 hp d1))
      · rw [if_neg hz] at q; exact q.elim
/-- an operation whose left side may raise -/
def gX2 (f : D → D → Option D) (ga : GR) (gb : GE) : GR := fun c => match ga c with
  | some (.val x) => match gb c with
    | some y => match f x y with
      | some z => some (.val z)
      | none => none
    | none => none
  | r => r
theorem vtx_op {r : R2} {f : D → D → Option D} {ta tb : TE} {ga : GR} {gb : GE} (hr : RO K r f) (ha : VTX K W0 Ex b ta ga) (hb : VT K W0 b tb gb) : VTX K W0 Ex b (tOp r ta tb) (gX2 f ga gb) := by
  intro W σ c Q k u s q
  refine ha W σ c _ k u s ?_
  unfold gX2 at q
  cases e : ga c with
  | none => rw [e] at q; exact q.elim
  | some o =>
    rw [e] at q
    cases o with
    | exn C ns ds => exact q
    | val x =>
      simp only at q
      cases e2 : gb c with
      | none => rw [e2] at q; exact q.elim
      | some y =>
        simp only [e2] at q
        cases e3 : f x y with
        | none => rw [e3] at q; exact q.elim
        | some z =>
          simp only [e3] at q
          intro W1 v1 k1 g1 d1
          refine hb W1 σ c y _ k1 (u.gr g1) (s.gr g1) e2 fun W2 v2 k2 g2 d2 => ?_
          exact hr b W2 v1 v2 x y z Q k2 (d1.up (g2.at b)) d2 e3 fun W3 v3 k3 g3 d3 => q W3 v3 k3 (g1.trans (g2.trans g3)) d3
/-! statements of a def that may raise -/
def gRetX (g : GR) : GS := fun c => match g (frzAll c) with
  | some (.val d) => some (.ret d)
  | some (.exn C ns ds) => some (.ex C ns ds)
  | none => none
theorem vs_retX {te : TE} {g : GR} (h : VTX K W0 (fun _ => E) true te g) : VS K W0 E (tRet te) (gRetX g) := by
  intro W σ c D k u s q
  obtain ⟨W', e, k', u', f', s'⟩ := sd_frz (c' := frzAll c) k u s (by simp [frzAll]) (fun i y hy => .inr (by simp [frzAll, hy]))
  show te σ W.H D.rt
  rw [← e]
  refine h W' σ _ _ k' u' s' ?_
  unfold gRetX at q
  cases hg : g (frzAll c) with
  | none => rw [hg] at q; exact q.elim
  | some r =>
    rw [hg] at q
    cases r with
    | val d => exact fun W2 v k2 g2 hd => q W2 v k2 (u'.gr g2) (f'.trans g2.f) hd
    | exn C ns ds => exact fun W2 dx fs k2 g2 h1 h2 h3 h4 => q W2 dx fs k2 (u'.gr g2) (f'.trans g2.f) h1 (u'.h.free h2) h3 h4
/-! ### the suite of a try -/
inductive OutY where
  | nx (c : Env) | ret (d : D)
  | ex (c : Env) (C : Addr) (ns : List Str) (ds : List D)
abbrev GY := Env → Option OutY
def PostY (K : PySem.W.Frag) (E : L2.St → XK) (W0 : Wd) (Fs : Hp) (D : Ends) : Option OutY → Prop
  | none => False
  | some (.nx c) => NxP K W0 Fs D.nx c
  | some (.ret d) => ∀ W v, WOk W → Up W0 W → Same Fs W.F → Den K W.F v d → D.rt v W.H
  | some (.ex c C ns ds) => ∀ W σ dx fs, WOk W → Up W0 W → Same Fs W.F → SD K W0 W σ c → W.H dx = some (.xd fs) → W0.H dx = none → fs.map (·.1) = ns → DenL K W.F (fs.map (·.2)) ds → E σ (.ref C) (some dx) W.H
def VSY (K : PySem.W.Frag) (W0 : Wd) (E : L2.St → XK) (ts : TS) (g : GY) : Prop :=
  ∀ (W : Wd) (σ : L2.St) (c : Env) (D : Ends), WOk W → Up W0 W → SD K W0 W σ c → PostY K E W0 W.F D (g c) → ts D σ W.H
theorem PostY.mono {F F' : Hp} {D : Ends} (e : Same F F') : ∀ {o : Option OutY}, PostY K Ex W0 F D o → PostY K Ex W0 F' D o
  | none, h => h
  | some (.nx c), h => NxP.mono h e
  | some (.ret d), h => fun W v k u f => h W v k u (e.trans f)
  | some (.ex c C ns ds), h => fun W σ dx fs k u f => h W σ dx fs k u (e.trans f)
def yNext : GY := fun c => some (.nx c)
theorem y_next : VSY K W0 Ex tNext yNext := fun W σ c D k u s h => h W σ k u (Same.refl _) s
def ySeq (g1 g2 : GY) : GY := fun c => match g1 c with
  | some (.nx c') => g2 c'
  | r => r
theorem y_seq {t1 t2 : TS} {g1 g2 : GY} (h1 : VSY K W0 Ex t1 g1) (h2 : VSY K W0 Ex t2 g2) : VSY K W0 Ex (tSeq t1 t2) (ySeq g1 g2) := by
  intro W σ c D k u s h
  refine h1 W σ c { D with nx := t2 D } k u s ?_
  unfold ySeq at h
  cases e : g1 c with
  | none => rw [e] at h; exact h
  | some o =>
    rw [e] at h
    cases o with
    | nx c' => exact fun W' σ' k' u' f' s' => h2 W' σ' c' D k' u' s' (h.mono f')
    | ret d => exact h
    | ex c' C ns ds => exact h
def yIf (p : GB) (g1 g2 : GY) : GY := fun c => match p c with
  | some true => g1 c
  | some false => g2 c
  | none => none
theorem y_if {tt : TT} {p : GB} {t1 t2 : TS} {g1 g2 : GY} (h : VB K W0 tt p) (h1 : VSY K W0 Ex t1 g1) (h2 : VSY K W0 Ex t2 g2) : VSY K W0 Ex (tIfS tt t1 t2) (yIf p g1 g2) := by
  intro W σ c D k u s q
  unfold yIf at q
  cases e : p c with
  | none => rw [e] at q; exact q.elim
  | some b =>
    rw [e] at q
    refine h W σ c b _ k u s e fun W' k' g' => ?_
    cases b with
    | true => rw [if_pos rfl]; exact h1 W' σ c D k' (u.gr g') (s.gr g') (q.mono g'.f)
    | false => rw [if_neg Bool.false_ne_true]; exact h2 W' σ c D k' (u.gr g') (s.gr g') (q.mono g'.f)
def yRet (g : GR) : GY := fun c => match g (frzAll c) with
  | some (.val d) => some (.ret d)
  | some (.exn C ns ds) => some (.ex (frzAll c) C ns ds)
  | none => none
theorem y_ret {te : TE} {g : GR} (h : VTX K W0 Ex true te g) : VSY K W0 Ex (tRet te) (yRet g) := by
  intro W σ c D k u s q
  obtain ⟨W', e, k', u', f', s'⟩ := sd_frz (c' := frzAll c) k u s (by simp [frzAll]) (fun i y hy => .inr (by simp [frzAll, hy]))
  show te σ W.H D.rt
  rw [← e]
  refine h W' σ _ _ k' u' s' ?_
  unfold yRet at q
  cases hg : g (frzAll c) with
  | none => rw [hg] at q; exact q.elim
  | some r =>
    rw [hg] at q
    cases r with
    | val d => exact fun W2 v k2 g2 hd => q W2 v k2 (u'.gr g2) (f'.trans g2.f) hd
    | exn C ns ds => exact fun W2 dx fs k2 g2 h1 h2 h3 h4 => q W2 σ dx fs k2 (u'.gr g2) (f'.trans g2.f) (s'.gr g2) h1 (u'.h.free h2) h3 h4
def yAsg (i : Nat) (g : GR) : GY := fun c => match g c with
  | some (.val d) => some (.nx (c.set i (some (.fz d))))
  | some (.exn C ns ds) => some (.ex c C ns ds)
  | none => none
theorem y_asg {i : Nat} {te : TE} {g : GR} (h : VTX K W0 Ex true te g) : VSY K W0 Ex (tAsg te (gName i)) (yAsg i g) := by
  intro W σ c D k u s q
  refine h W σ c _ k u s ?_
  unfold yAsg at q
  cases hg : g c with
  | none => rw [hg] at q; exact q.elim
  | some r =>
    rw [hg] at q
    cases r with
    | val d => exact fun W2 v k2 g2 hd => q W2 _ k2 (u.gr g2) g2.f (sd_fz (s.gr g2) i hd)
    | exn C ns ds => exact fun W2 dx fs k2 g2 h1 h2 h3 h4 => q W2 σ dx fs k2 (u.gr g2) g2.f (s.gr g2) h1 (u.h.free h2) h3 h4
def yExpr (g : GR) : GY := fun c => match g c with
  | some (.val _) => some (.nx c)
  | some (.exn C ns ds) => some (.ex c C ns ds)
  | none => none
theorem y_expr {te : TE} {g : GR} (h : VTX K W0 Ex b te g) : VSY K W0 Ex (tDrop te) (yExpr g) := by
  intro W σ c D k u s q
  refine h W σ c _ k u s ?_
  unfold yExpr at q
  cases hg : g c with
  | none => rw [hg] at q; exact q.elim
  | some r =>
    rw [hg] at q
    cases r with
    | val d => exact fun W2 v k2 g2 hd => q W2 _ k2 (u.gr g2) g2.f (s.gr g2)
    | exn C ns ds => exact fun W2 dx fs k2 g2 h1 h2 h3 h4 => q W2 σ dx fs k2 (u.gr g2) g2.f (s.gr g2) h1 (u.h.free h2) h3 h4
/-- try: suite except S as n: handler; what the suite may raise is of the class at C, which S names -/
def tTryG (K : PySem.W.Frag) (cV : Value) (i : Nat) (tb : WX → TS) (ts : Addr → Value → Option Addr → TS) (Wout : WX) : TS := fun D σ H => tb (wAs K cV i ts Wout D) D σ H
def gTryG (i : Nat) (C : Addr) (g : GY) (gs : GS) : GS := fun c => match g c with
  | some (.nx c') => some (.nx c')
  | some (.ret d) => some (.ret d)
  | some (.ex c1 C' ns es) => if C' = C ∧ (c1.set i none).all notExc = true then
      match gs (c1.set i (some (.exc C ns es))) with
      | some (.nx c') => if (c'.set i none).all notExc = true then some (.nx (c'.set i none)) else none
      | some (.ret d) => some (.ret d)
      | _ => none
    else none
  | none => none
theorem vs_tryG {i : Nat} {C : Addr} {cV : Value} {tb : WX → TS} {g : GY} {ts : Addr → Value → Option Addr → TS} {gs : GS} {Wout : WX}
    (hx : PySem.W.exmOne K (.ref C) cV = some true) (hb : ∀ Wx : WX, VSY K W0 (WE Wx) (tb Wx) g) (hs : ∀ a d, VS K (excW W0 a d) E (ts a (.ref C) (some d)) gs) :
    VS K W0 E (tTryG K cV i tb ts Wout) (gTryG i C g gs) := by
  intro W σ c D k u s q
  refine hb _ W σ c D k u s ?_
  unfold gTryG at q
  cases e : g c with
  | none => rw [e] at q; exact q.elim
  | some o =>
    rw [e] at q
    cases o with
    | nx c' => exact q
    | ret d => exact q
    | ex c1 C' ns es =>
      simp only at q
      by_cases hC : C' = C ∧ (c1.set i none).all notExc = true
      · rw [if_pos hC] at q
        obtain ⟨rfl, hne⟩ := hC
        intro W2 σ2 dx fs k2 u2 f2 s2 a6 a5 a7 a8
        refine ⟨true, hx, fun _ a na => ?_, fun z => nomatch z⟩
        have u3 : Up (excW W0 a dx) W2 := ⟨u2.h, u2.f, u2.fo⟩
        have s3 : SD K (excW W0 a dx) W2 (σ2.set i none) (c1.set i none) := sd_excW (W0 := W0) (W0' := excW W0 a dx) rfl rfl rfl hne (sd_set s2 i none none trivial fun l h => (noHold_none h).elim)
        have s4 : SD K (excW W0 a dx) W2 (σ2.set i (some (.ref a))) (c1.set i (some (.exc C' ns es))) := by
          have z := sd_set s3 i (some (.ref a)) (some (.exc C' ns es)) ⟨fs, rfl, a6, a7, a8⟩ fun l h => absurd h.2 Bool.false_ne_true
          rw [List.set_set, List.set_set] at z
          exact z
        refine hs a dx W2 _ _ _ k2 u3 s4 ?_
        cases e3 : gs (c1.set i (some (.exc C' ns es))) with
        | none => rw [e3] at q; exact q.elim
        | some o =>
          rw [e3] at q
          cases o with
          | nx c' =>
            simp only at q
            by_cases hn' : (c'.set i none).all notExc = true
            · rw [if_pos hn'] at q
              intro W3 σ3 k3 u4 f4 s5
              exact q W3 _ k3 ⟨u4.h, u4.f, u4.fo⟩ (f2.trans f4) (sd_excW (W0 := excW W0 a dx) (W0' := W0) rfl rfl rfl hn' (sd_set s5 i none none trivial fun l h => (noHold_none h).elim))
            · rw [if_neg hn'] at q; exact q.elim
          | ret d => exact fun W3 v k3 u4 f4 d3 => q W3 v k3 ⟨u4.h, u4.f, u4.fo⟩ (f2.trans f4) d3
          | bk c => exact q.elim
          | ct c => exact q.elim
          | ex C ns es => exact q.elim
      · rw [if_neg hC] at q; exact q.elim
end
/-! ### isinstance(e, T), e the exception that the suite holds, with its dict -/
structure IsxC (K : PySem.W.Frag) (D : Addr) : Prop where
  xf : XfC K D
  cl : PySem.W.isClsIn K D = true
  at_ : PySem.W.findIn K (.ref D) "__class__" = some (some (.builtin "object.__class__"))
  get : PySem.W.specialIn K (.builtin "object.__class__") "__get__" = some (some (.builtin "getset_descriptor.__get__"))
  tk : PySem.W.takesIn K (.builtin "object.__class__") = some true
  mr : PySem.W.mroIn K D (.type "object") = some true
def rIsX (K : PySem.W.Frag) (D a : Addr) (cls : Value) (d : Option Addr) : List V → Hp → VK → Prop := fun xs H Q => ∃ (c : V) (cw : Value) (r : Bool) (dd : Addr) (fs : List (Str × V)), xs = [.ref a, c] ∧ cls = .ref D ∧ d = some dd ∧ H dd = some (.xd fs) ∧ (∀ u, RelV c u → u = cw) ∧ PySem.W.kitOne K (.ref D) cw = some r ∧ Q (.bl r) H
theorem call_isX {X : Cx} {a D : Addr} {oe : Obj} {cls : Value} {d : Option Addr} {pn : List (Addr × Obj)} (C : IsxC X.K D) (hz : Zc cls d oe) (hf : ∃ vs, oe.data = .fields vs) : CallR (X.suite a ((a, oe) :: pn)) (.builtin "isinstance") (rIsX X.K D a cls d) := by
  intro pins s σ H xs us Q I r h
  obtain ⟨c, cw, ans, dd, fs, rfl, rfl, rfl, hx, hcw, e, q⟩ := h
  cases r with
  | cons r1 r2 =>
    cases r2 with
    | cons r2 r3 =>
      cases r3
      cases r1
      have ew := hcw _ r2
      subst ew
      obtain ⟨here, _⟩ := I.pin (a, oe) (List.mem_append_left _ List.mem_cons_self)
      have ho : ObjOk X.prog X.w H s.heap dd (.xd fs) := I.hok dd _ hx
      obtain ⟨mA, hns, _⟩ := ho
      obtain ⟨ob, hob, _⟩ := lookIn_ns hns
      obtain ⟨vs, hv⟩ := hf
      have J : PySem.W.InstAt s.heap a oe D (some ob) := ⟨here, hz.1, by unfold PySem.W.notCls; rw [hv] <;> rfl, by rw [hz.2]; exact hob⟩
      exact PySem.W.kia_one (PySem.W.kitx_exc C.cl C.xf.ga C.xf.gg C.xf.exC C.at_ C.get C.tk C.mr) I.kIn J e (fun z => nomatch z) fun tk => ⟨.bl ans, H, I.kept (t' := tk) fun _ _ z => z, rfl, q⟩
section
variable {K : PySem.W.Frag} {W0 W : Wd} {b : Bool}
def gIsX (i : Nat) (D : Addr) (ans : Bool) : GE := fun c => match c[i]? with
  | some (some (.exc C' _ _)) => if C' = D then some (.bl ans) else none
  | _ => none
theorem vt_isX {i : Nat} {a d D : Addr} {cv : V} {cw : Value} {ans : Bool} (hcv : ∀ u, RelV cv u → u = cw) (hk : PySem.W.kitOne K (.ref D) cw = some ans) : VT K (excW W0 a d) b (tCB (rIsX K D a (.ref D) (some d)) (tCons (tVar i) (tCons (tC cv) tNil))) (gIsX i D ans) := by
  intro W σ c z Q k u s e q
  unfold gIsX at e
  split at e
  · rename_i C' ns es hc
    split at e
    · rename_i hC
      subst hC
      cases e
      obtain ⟨x, hx, fs, rfl, e1, e2, e3⟩ := s.at hc
      exact ⟨_, hx, _, _, ans, d, fs, rfl, rfl, rfl, e1, hcv, hk, q W _ k (Gr.refl W) (.bl ans)⟩
    · cases e
  · cases e
theorem exm_sub {C S : Addr} (e : PySem.W.subIn K (.ref S) (.type "BaseException") = some true) (i : PySem.W.isClsIn K S = true) (t : PySem.W.typeIn K (.ref S) = some (.type "type")) (s : PySem.W.subIn K (.ref C) (.ref S) = some true) : PySem.W.exmOne K (.ref C) (.ref S) = some true := by
  have i' : (PySem.W.clsIn K S).isSome = true := i
  unfold PySem.W.exmOne
  rw [e]
  refine (if_pos (by simp)).trans ?_
  unfold PySem.W.kitCls
  simp [i', t, s]
theorem kit_same {C : Addr} : PySem.W.kitOne K (.ref C) (.ref C) = some true := by
  unfold PySem.W.kitOne
  exact if_pos (by simp)
theorem kit_sub {C S : Addr} {r : Bool} (n : C ≠ S) (i : PySem.W.isClsIn K S = true) (t : PySem.W.typeIn K (.ref S) = some (.type "type")) (s : PySem.W.subIn K (.ref C) (.ref S) = some r) : PySem.W.kitOne K (.ref C) (.ref S) = some r := by
  have i' : (PySem.W.clsIn K S).isSome = true := i
  unfold PySem.W.kitOne
  refine (if_neg (by simpa using n)).trans ?_
  unfold PySem.W.kitCls
  simp [i', t, s]
theorem kit_ty {C : Addr} {n : String} {r : Bool} (m : PySem.W.kitMeta n = true) (s : PySem.W.subIn K (.ref C) (.type n) = some r) : PySem.W.kitOne K (.ref C) (.type n) = some r := by
  unfold PySem.W.kitOne
  refine (if_neg (by simp)).trans ?_
  unfold PySem.W.kitCls
  simp [m, s]
theorem pt_truthK {X : Cx} {a : Expr} {ta : TE} (hK : X.K = K) (ha : PE X a ta) (he : ∀ whole, isTrue a X.env whole = (do let v ← whole; standAt a.pos; holding [v] (truthy v))) : PT X a (fun σ H Q => ta σ H fun x H' => ∃ k, TruV K x H' k ∧ Q k H') := by
  subst hK
  exact pt_truth ha he
theorem pe_fldK {X : Cx} {e : Expr} {f : Str} {ta : TE} {pos : Pos} (hK : X.K = K) (he : PE X e ta) (hb : attributeBase e f X.env (eval e X.env) = eval e X.env) : PE X (.Attribute e f pos) (tFld K ta f) := by
  subst hK
  exact pe_fld he hb
theorem pe_cntK {X : Cx} {o e : Expr} {to : TE} {t : TA} {apos cpos : Pos} (hK : X.K = K) (ho : PE X o to) (ha : PA X [e] t)
    (hbase : attributeBase o "count" X.env (eval o X.env) = eval o X.env := by rfl)
    (hfew : ((backTo cpos (starEach [e] X.env)).all (fun x => !x.1) && (backToKw cpos (keywordEach [] X.env)).all (fun x => x.1.isSome) && decide ([e].length + ([] : List Keyword).length + (if ([] : List Keyword).isEmpty then 0 else 1) < 30)) = true := by rfl)
    (hline : (apos.endLine == cpos.line) = true := by rfl) (hs : starEach [e] X.env = (false, eval e X.env) :: starEach [] X.env := by rfl) : PE X (.Call (.Attribute o "count" apos) [e] [] cpos) (tBM K "list" (rCntU K) to t) := by
  subst hK
  exact pe_bm PySem.F.plainAttrs_list PySem.F.slot_list_count PySem.F.type_list_count mt_cntU ho ha hbase hfew hline hs
theorem ps_tryG {X : Cx} {x n : Str} {c : Value} {i : Nat} {body suite : List Stmt} {b₀ : Stmt} {np pos pos' : Pos} {tb : WX → TS} {ts : Addr → Value → Option Addr → TS} {Wout : WX} (hK : X.K = K) (hs : X.stack = X.env :: X.outer) (hf : X.env.frame = some X.env.locals) (hN : X.N.Nodup) (hi : X.N[i]? = some n) (hln : X.env.kindOf n = some .local) (hc : Names X x c) (tk : Takes X Wout)
    (hb : ∀ (W : WX) (pn : List (Addr × Obj)) (xe : Value → Shared → Prop), Takes (X.tr pn xe) W → PassesOwn (model X.prog X.w) X.A X.env xe → PSs (X.tr pn xe) body (tb W))
    (hsu : ∀ (a : Addr) (oe : Obj) (cls : Value) (d : Option Addr) (pn : List (Addr × Obj)), Zc cls d oe → (∃ vs, oe.data = .fields vs) → PSs (X.suite a ((a, oe) :: pn)) (b₀ :: suite) (ts a cls d)) :
    PS X (.Try body [.ExceptHandler (some (.Name x np)) (some n) (b₀ :: suite) pos'] [] [] pos) (tTryG K c i tb ts Wout) := by
  subst hK
  exact ps_try_as hs hf hN hi hln hc tk hb hsu
/-! a, b = a tuple or a list -/
def gTupU (K : PySem.W.Frag) (n : Nat) (t : TGs) : TG := fun v σ H Q => L2.gTup K n t v σ H Q ∨ gLst K n t v σ H Q
theorem pg_tupU {X : Cx} {pos : Pos} {es : List Expr} {k : Nat} {t : TGs} {n : Nat} (hK : X.K = K) (hc : X.calm = true) (h : PGs X es t) (hn : (assignEach es X.env).length = n := by rfl) (hst : (assignEach es X.env).findIdx? (·.1) = none := by rfl) : PG X (.Tuple es k pos) (gTupU K n t) := by
  subst hK
  refine ⟨fun pins s σ H v u Q I r hw => ?_⟩
  rcases hw with hw | hw
  · exact (pg_tup hc h hn hst).run pins s σ H v u Q I r hw
  · exact (pg_lst hc h hn hst).run pins s σ H v u Q I r hw
def fTupU (n : Nat) (fs : List D → Env → Option Env) : D → Env → Option Env
  | .tup ds, c => if ds.length = n then fs ds c else none
  | .lst ds, c => if ds.length = n then fs ds c else none
  | _, _ => none
theorem vg_tupU {n : Nat} {ts : TGs} {js : List Nat} {fs : List D → Env → Option Env} (hs : VGs K W0 ts js fs) : VG K W0 (gTupU K n ts) js (fTupU n fs) := by
  intro W σ c c' v d Q k s hd e q
  unfold fTupU at e
  split at e
  · split at e
    · rename_i hn
      cases hd with
      | tup h1 h2 => exact .inl ⟨_, _, rfl, sqT_same k.fh h1, by rw [h2.length]; exact hn, hs W σ c c' _ _ Q k s h2 e q⟩
    · cases e
  · split at e
    · rename_i hn
      cases hd with
      | lst h1 h2 => exact .inr ⟨_, _, rfl, SqL.of (k.fh _ _ h1), by rw [h2.length]; exact hn, hs W σ c c' _ _ Q k s h2 e q⟩
    · cases e
  · cases e
end
end VL
end

section
/-! VP: what a statement's function of cells gives, rule by rule. -/
namespace VL
open PySem PySem.Spec PyProof.Rows L2
def Wp (g : GS) (c : Env) (P : Out → Prop) : Prop := ∃ o, g c = some o ∧ P o
def WpK (g : GS) (P : Out → Prop) : Out → Prop
  | .nx c => Wp g c P
  | .ret d => P (.ret d)
  | .bk c => P (.bk c)
  | .ct c => P (.ct c)
  | .ex C ns ds => P (.ex C ns ds)
section
variable {g g1 g2 gb : GS} {ge ge2 : GE} {c c' : Env} {P R : Out → Prop} {p : GB}
theorem Wp.mono (h : Wp g c P) (i : ∀ o, P o → R o) : Wp g c R := by
  obtain ⟨o, h1, h2⟩ := h
  exact ⟨o, h1, i o h2⟩
theorem wp_seq (h : Wp g1 c (WpK g2 P)) : Wp (gSeq g1 g2) c P := by
  obtain ⟨o, h1, h2⟩ := h
  cases o with
  | nx c' =>
    obtain ⟨o', h3, h4⟩ := h2
    refine ⟨o', ?_, h4⟩
    unfold gSeq
    rw [h1]
    exact h3
  | ret d => exact ⟨_, by unfold gSeq; rw [h1], h2⟩
  | bk d => exact ⟨_, by unfold gSeq; rw [h1], h2⟩
  | ct d => exact ⟨_, by unfold gSeq; rw [h1], h2⟩
  | ex C ns ds => exact ⟨_, by unfold gSeq; rw [h1], h2⟩
theorem wp_next (h : P (.nx c)) : Wp gNext c P := ⟨_, rfl, h⟩
theorem wp_break (h : P (.bk c)) : Wp gBreak c P := ⟨_, rfl, h⟩
theorem wp_cont (h : P (.ct c)) : Wp gCont c P := ⟨_, rfl, h⟩
theorem wp_if {b : Bool} (hp : p c = some b) (ht : b = true → Wp g1 c P) (hf : b = false → Wp g2 c P) : Wp (gIf p g1 g2) c P := by
  cases b with
  | true => obtain ⟨o, h1, h2⟩ := ht rfl; exact ⟨o, by unfold gIf; rw [hp]; exact h1, h2⟩
  | false => obtain ⟨o, h1, h2⟩ := hf rfl; exact ⟨o, by unfold gIf; rw [hp]; exact h1, h2⟩
theorem wp_ift (hp : p c = some true) (h : Wp g1 c P) : Wp (gIf p g1 g2) c P := wp_if hp (fun _ => h) (fun e => nomatch e)
theorem wp_iff (hp : p c = some false) (h : Wp g2 c P) : Wp (gIf p g1 g2) c P := wp_if hp (fun e => nomatch e) (fun _ => h)
theorem wp_asg {f : D → Env → Option Env} {d : D} (h : ge c = some d) (hf : f d c = some c') (hP : P (.nx c')) : Wp (gAsg ge f) c P :=
  ⟨.nx c', by unfold gAsg; rw [h]; show (match f d c with | some c' => some (Out.nx c') | none => none) = _; rw [hf], hP⟩
theorem wp_set {i : Nat} {d : D} (h : ge c = some d) (hP : P (.nx (c.set i (some (.fz d))))) : Wp (gAsg ge (fName i)) c P := wp_asg h rfl hP
theorem wp_asgN {i : Nat} {ga : GA} {ds : List D} (h : ga c = some ds) (hP : P (.nx (c.set i (some (.own ds))))) : Wp (gAsgN i ga) c P :=
  ⟨_, by unfold gAsgN; rw [h], hP⟩
theorem wp_ret {d : D} (h : ge (frzAll c) = some d) (hP : P (.ret d)) : Wp (gRet ge) c P := ⟨_, by unfold gRet; rw [h], hP⟩
theorem wp_retN (hP : P (.ret .non)) : Wp gRetN c P := ⟨_, rfl, hP⟩
theorem wp_append {i : Nat} {ds : List D} {d : D} (hc : c[i]? = some (some (.own ds))) (h : ge c = some d) (hl : ds.length < sizeLine) (hP : P (.nx (c.set i (some (.own (ds ++ [d])))))) : Wp (gAppend i ge) c P :=
  ⟨_, by unfold gAppend; rw [hc]; show (match ge c with | some d => if ds.length < sizeLine then some (Out.nx (c.set i (some (.own (ds ++ [d]))))) else none | none => none) = _; rw [h]; exact if_pos hl, hP⟩
theorem wp_frz {i : Nat} (h : Wp g (frz i c) P) : Wp (gFrz i g) c P := h
theorem wp_par {i j : Nat} {ga : GA} {x y : D} (h : ga c = some [x, y]) (hP : P (.nx ((c.set i (some (.fz x))).set j (some (.fz y))))) : Wp (gPar i j ga) c P :=
  ⟨_, by unfold gPar; rw [h], hP⟩
theorem wp_drop {d : D} (h : ge c = some d) (hP : P (.nx c)) : Wp (gDrop ge) c P := ⟨_, by unfold gDrop; rw [h], hP⟩
def WpL (f : D → Env → Option Env) (gb : GS) (ds : List D) (c : Env) (P : Out → Prop) : Prop := ∃ o, gLoop f gb ds c = some o ∧ P o
theorem wp_for {gi : GA} {f : D → Env → Option Env} {ds : List D} (hi : gi c = some ds) (h : WpL f gb ds c P) : Wp (gFor gi f gb) c P := by
  obtain ⟨o, h1, h2⟩ := h
  exact ⟨o, by unfold gFor; rw [hi]; exact h1, h2⟩
/-- behind one turn of a loop -/
def Turn (I : Env → Prop) (P : Out → Prop) : Out → Prop
  | .nx c => I c
  | .ct c => I c
  | .bk c => P (.nx c)
  | .ret d => P (.ret d)
  | .ex C ns ds => P (.ex C ns ds)
theorem wpl_nil {f : D → Env → Option Env} (h : P (.nx c)) : WpL f gb [] c P := ⟨_, rfl, h⟩
theorem wpl_cons {f : D → Env → Option Env} {d : D} {ds : List D} {c1 : Env} (hf : f d c = some c1) (h : Wp gb c1 (Turn (fun c2 => WpL f gb ds c2 P) P)) : WpL f gb (d :: ds) c P := by
  obtain ⟨o, h1, h2⟩ := h
  cases o with
  | nx c2 => obtain ⟨o2, h3, h4⟩ := h2; exact ⟨o2, by unfold gLoop; rw [hf]; show (match gb c1 with | some (.nx c2) => gLoop f gb ds c2 | some (.ct c2) => gLoop f gb ds c2 | some (.bk c2) => some (.nx c2) | r => r) = _; rw [h1]; exact h3, h4⟩
  | ct c2 => obtain ⟨o2, h3, h4⟩ := h2; exact ⟨o2, by unfold gLoop; rw [hf]; show (match gb c1 with | some (.nx c2) => gLoop f gb ds c2 | some (.ct c2) => gLoop f gb ds c2 | some (.bk c2) => some (.nx c2) | r => r) = _; rw [h1]; exact h3, h4⟩
  | bk c2 => exact ⟨_, by unfold gLoop; rw [hf]; show (match gb c1 with | some (.nx c2) => gLoop f gb ds c2 | some (.ct c2) => gLoop f gb ds c2 | some (.bk c2) => some (.nx c2) | r => r) = _; rw [h1], h2⟩
  | ret d => exact ⟨_, by unfold gLoop; rw [hf]; show (match gb c1 with | some (.nx c2) => gLoop f gb ds c2 | some (.ct c2) => gLoop f gb ds c2 | some (.bk c2) => some (.nx c2) | r => r) = _; rw [h1], h2⟩
  | ex C ns es => exact ⟨_, by unfold gLoop; rw [hf]; show (match gb c1 with | some (.nx c2) => gLoop f gb ds c2 | some (.ct c2) => gLoop f gb ds c2 | some (.bk c2) => some (.nx c2) | r => r) = _; rw [h1], h2⟩
/-- THE RULE for a loop: an invariant of what is done -/
theorem wpl_inv {α : Type} {f : D → Env → Option Env} {e : α → D} (I : List α → Env → Prop) : ∀ (ys xs : List α) (c : Env), I ys c →
    (∀ done x rest c, ys ++ xs = done ++ x :: rest → I done c → ∃ c1, f (e x) c = some c1 ∧ Wp gb c1 (Turn (I (done ++ [x])) P)) → (∀ c, I (ys ++ xs) c → P (.nx c)) → WpL f gb (xs.map e) c P
  | ys, [], c, hI, hs, he => wpl_nil (he c (by simpa using hI))
  | ys, x :: xs, c, hI, hs, he => by
    obtain ⟨c1, h1, h2⟩ := hs ys x xs c rfl hI
    refine wpl_cons h1 (h2.mono fun o ho => ?_)
    have hs' : ∀ done y rest c, (ys ++ [x]) ++ xs = done ++ y :: rest → I done c → ∃ c1, f (e y) c = some c1 ∧ Wp gb c1 (Turn (I (done ++ [y])) P) := fun done y rest c q => hs done y rest c (by simpa using q)
    have he' : ∀ c, I ((ys ++ [x]) ++ xs) c → P (.nx c) := fun c q => he c (by simpa using q)
    cases o with
    | nx c2 => exact wpl_inv I (ys ++ [x]) xs c2 ho hs' he'
    | ct c2 => exact wpl_inv I (ys ++ [x]) xs c2 ho hs' he'
    | bk c2 => exact ho
    | ret d => exact ho
    | ex C ns ds => exact ho
theorem wpl_all {α : Type} {f : D → Env → Option Env} {e : α → D} (I : List α → Env → Prop) {xs : List α} (h0 : I [] c)
    (hs : ∀ done x rest c, xs = done ++ x :: rest → I done c → ∃ c1, f (e x) c = some c1 ∧ Wp gb c1 (Turn (I (done ++ [x])) P)) (he : ∀ c, I xs c → P (.nx c)) : WpL f gb (xs.map e) c P :=
  wpl_inv I [] xs c h0 hs he
/-- a loop over a range -/
theorem wpl_rg {f : D → Env → Option Env} {n : Nat} (I : Nat → Env → Prop) (h0 : I 0 c)
    (hs : ∀ k c, k < n → I k c → ∃ c1, f (.int (k : Nat)) c = some c1 ∧ Wp gb c1 (Turn (I (k + 1)) P)) (he : ∀ c, I n c → P (.nx c)) : WpL f gb (rgD 0 n) c P := by
  have e : rgD 0 n = (List.range n).map fun i => D.int (i : Nat) := by
    unfold rgD
    apply List.map_congr_left
    intro i _
    rw [Int.zero_add]
  rw [e]
  refine wpl_all (fun done c => I done.length c) h0 ?_ ?_
  · intro done x rest c q hI
    have hx : x = done.length ∧ done.length < n := by
      have h1 : (List.range n)[done.length]? = some x := by rw [q]; simp
      have h2 : done.length < n := by
        have := congrArg List.length q
        simp at this
        omega
      rw [List.getElem?_range h2] at h1
      exact ⟨(Option.some.inj h1).symm, h2⟩
    obtain ⟨rfl, h2⟩ := hx
    rw [List.length_append]
    exact hs _ c h2 hI
  · intro c hI
    rw [List.length_range] at hI
    exact he c hI
/-- a loop over enumerate -/
theorem wpl_en {α : Type} {f : D → Env → Option Env} {e : α → D} (I : List α → Env → Prop) : ∀ (ys xs : List α) (c : Env), I ys c →
    (∀ done x rest c, ys ++ xs = done ++ x :: rest → I done c → ∃ c1, f (.tup [.int (done.length : Nat), e x]) c = some c1 ∧ Wp gb c1 (Turn (I (done ++ [x])) P)) → (∀ c, I (ys ++ xs) c → P (.nx c)) → WpL f gb (enD ys.length (xs.map e)) c P
  | ys, [], c, hI, hs, he => wpl_nil (he c (by simpa using hI))
  | ys, x :: xs, c, hI, hs, he => by
    obtain ⟨c1, h1, h2⟩ := hs ys x xs c rfl hI
    refine wpl_cons h1 (h2.mono fun o ho => ?_)
    have hs' : ∀ done y rest c, (ys ++ [x]) ++ xs = done ++ y :: rest → I done c → ∃ c1, f (.tup [.int (done.length : Nat), e y]) c = some c1 ∧ Wp gb c1 (Turn (I (done ++ [y])) P) := fun done y rest c q => hs done y rest c (by simpa using q)
    have he' : ∀ c, I ((ys ++ [x]) ++ xs) c → P (.nx c) := fun c q => he c (by simpa using q)
    have hl : (ys ++ [x]).length = ys.length + 1 := by simp
    cases o with
    | nx c2 => have := wpl_en I (ys ++ [x]) xs c2 ho hs' he'; rw [hl] at this; exact this
    | ct c2 => have := wpl_en I (ys ++ [x]) xs c2 ho hs' he'; rw [hl] at this; exact this
    | bk c2 => exact ho
    | ret d => exact ho
    | ex C ns ds => exact ho
theorem wp_fldS {C : Addr} {i : Nat} {f : Str} {ns : List Str} {ds : List D} {d : D} (hc : c[i]? = some (some (.slf C ns ds))) (h : ge c = some d) (hf : f ∉ ns ∧ ns.length < 1000) (hP : P (.nx (c.set i (some (.slf C (ns ++ [f]) (ds ++ [d])))))) : Wp (gFldS C i f ge) c P :=
  ⟨_, by unfold gFldS; rw [hc]; show (match ge c with | some d => if C = C ∧ f ∉ ns ∧ ns.length < 1000 then some (Out.nx (c.set i (some (.slf C (ns ++ [f]) (ds ++ [d]))))) else none | none => none) = _; rw [h]; exact if_pos ⟨rfl, hf⟩, hP⟩
theorem i_val {C : Addr} {n nn : Nat} {ds : List D} {ns : List Str} {es : List D} (hl : ds.length = n) (h : Wp g (VL.envI C nn ds) (fun o => ∃ c, o = .nx c ∧ c[0]? = some (some (.slf C ns es)))) : iOf C n nn g ds = some (ns, es) := by
  obtain ⟨o, h1, c, rfl, h2⟩ := h
  unfold iOf
  rw [if_pos hl, h1]
  show (match (c[0]? : Option (Option Cell)) with | some (some (Cell.slf C' ns es)) => if C' = C then some (ns, es) else none | _ => none) = _
  rw [h2]
  exact if_pos rfl
/-- a def's call -/
theorem m_val {n nn : Nat} {ds : List D} {r : Res} (hl : ds.length = n) (h : Wp g (VL.envOf nn ds) (fun o => outRes (some o) = some r)) : mOf n nn g ds = some r := by
  obtain ⟨o, h1, h2⟩ := h
  unfold mOf
  rw [if_pos hl, h1]
  exact h2
theorem m_ex {n nn : Nat} {ds : List D} {S : D → Prop} (hl : ds.length = n) (h : Wp g (VL.envOf nn ds) (fun o => ∃ d, o = .ret d ∧ S d)) : ∃ d, mOf n nn g ds = some (.val d) ∧ S d := by
  obtain ⟨o, h1, d, rfl, h2⟩ := h
  refine ⟨d, ?_, h2⟩
  unfold mOf
  rw [if_pos hl, h1]
  rfl
/-! expressions -/
theorem e_fn {m : List D → Option Res} {ga : GA} {ds : List D} {d : D} (h : ga c = some ds) (hm : m ds = some (.val d)) : gFn m ga c = some d := by
  unfold gFn
  rw [h]
  show (match m ds with | some (.val d) => some d | _ => none) = _
  rw [hm]
theorem e_2 {f : D → D → Option D} {x y z : D} (h1 : ge c = some x) (h2 : ge2 c = some y) (h : f x y = some z) : VL.g2 f ge ge2 c = some z := by
  unfold VL.g2
  rw [h1, h2]
  exact h
theorem e_call {f : List D → Option D} {ga : GA} {ds : List D} {d : D} (h : ga c = some ds) (hf : f ds = some d) : gCall f ga c = some d := by
  unfold gCall
  rw [h]
  exact hf
theorem e_rg1 {ga : GA} {n : Int} (h : ga c = some [.int n]) (h1 : -(2 ^ 62) ≤ n) (h2 : n < 2 ^ 62) : gRg1 ga c = some (rgD 0 n.toNat) := by
  unfold gRg1
  rw [h]
  exact if_pos ⟨h1, h2⟩
theorem e_items {d : D} {ds : List D} (h : ge c = some d) (hi : d.iter = some ds) : gIt ge c = some ds := by
  unfold gIt
  rw [h]
  exact hi
theorem e_and {p q : GB} {a b : Bool} (h1 : p c = some a) (h2 : a = true → q c = some b) : gAnd p q c = some (a && b) := by
  unfold gAnd
  rw [h1]
  cases a with
  | true => exact h2 rfl
  | false => rfl
theorem e_or {p q : GB} {a b : Bool} (h1 : p c = some a) (h2 : a = false → q c = some b) : gOr p q c = some (a || b) := by
  unfold gOr
  rw [h1]
  cases a with
  | false => exact h2 rfl
  | true => rfl
theorem e_not {p : GB} {a : Bool} (h : p c = some a) : gNot p c = some (!a) := by
  unfold gNot
  rw [h]; rfl
theorem e_tru {d : D} {b : Bool} (h : ge c = some d) (ht : d.tru = some b) : gTru ge c = some b := by
  unfold gTru
  rw [h]; exact ht
theorem e_B {b : Bool} (h : ge c = some (.bl b)) : gB ge c = some b := by
  unfold gB
  rw [h]
theorem e_bl {p : GB} {b : Bool} (h : p c = some b) : gBl p c = some (.bl b) := by
  unfold gBl
  rw [h]; rfl
theorem wp_raise2 {C : Addr} {f g' : Str} {gs : GA} {y z : D} (h : gs c = some [y, z]) (hP : P (.ex C [g', f] [z, y])) : Wp (gRaise2 C f g' gs) c P :=
  ⟨_, by unfold gRaise2; rw [h], hP⟩
theorem wp_raise1 {C : Addr} {f : Str} {gs : GA} {y : D} (h : gs c = some [y]) (hP : P (.ex C [f] [y])) : Wp (gRaise1 C f gs) c P :=
  ⟨_, by unfold gRaise1; rw [h], hP⟩
theorem e_fld {C : Addr} {f : Str} {ns : List Str} {ds : List D} {d : D} (h : ge c = some (.ins C ns ds)) (hl : lookD ns ds f = some d) : gFld C f ge c = some d := by
  unfold gFld
  rw [h]
  exact (if_pos rfl).trans hl
theorem e_part {i : Int} (h : ge c = some (.int i)) : gPart ge c = some (some i) := by
  unfold gPart
  rw [h]
theorem e_enum {d : D} {ds : List D} (h : ge c = some d) (hi : d.items = some ds) : gEnum ge c = some (enD 0 ds) := by
  unfold gEnum
  rw [h]
  show d.items.map (enD 0) = _
  rw [hi]; rfl
theorem e_cut {d z : D} {gl gh : Env → Option (Option Int)} {lo hi : Option Int} (h : ge c = some d) (hl : gl c = some lo) (hh : gh c = some hi) (hc : dCut d lo hi = some z) : gCut ge gl gh c = some z := by
  unfold gCut
  rw [h, hl, hh]
  exact hc
theorem e_cons {ga : GA} {x : D} {xs : List D} (h : ge c = some x) (hs : ga c = some xs) : VL.gCons ge ga c = some (x :: xs) := by
  unfold VL.gCons
  rw [h, hs]
theorem e_tup {ga : GA} {xs : List D} (h : ga c = some xs) (hl : xs.length ≤ sizeLine) : VL.gTup ga c = some (.tup xs) := by
  unfold VL.gTup
  rw [h]
  first | exact if_pos hl | rfl
theorem e_lst {ga : GA} {xs : List D} (h : ga c = some xs) : gL ga c = some (.lst xs) := by
  unfold gL
  rw [h]
theorem lc_map {α : Type} {f : D → Env → Option Env} {e h : α → D} {q : α → Bool} : ∀ {xs : List α}, (∀ x ∈ xs, ∃ c1, f (e x) c = some c1 ∧ p c1 = some (q x) ∧ (q x = true → ge c1 = some (h x))) → gLcL f p ge c (xs.map e) = some ((xs.filter q).map h)
  | [], _ => rfl
  | x :: xs, hx => by
    obtain ⟨c1, h1, h2, h3⟩ := hx x (List.mem_cons_self ..)
    have ih := lc_map (xs := xs) fun y hy => hx y (List.mem_cons_of_mem _ hy)
    rw [List.map_cons]
    unfold gLcL
    rw [h1]
    show (match p c1 with | none => none | some false => gLcL f p ge c (xs.map e) | some true => match ge c1 with | none => none | some y => match gLcL f p ge c (xs.map e) with | some ys => some (y :: ys) | none => none) = _
    rw [h2]
    cases hq : q x with
    | false => rw [List.filter_cons_of_neg (by simp [hq])]; exact ih
    | true =>
      rw [List.filter_cons_of_pos hq, h3 hq, ih]
      rfl
theorem e_lcF {α : Type} {gi : GA} {f : D → Env → Option Env} {e h : α → D} {q : α → Bool} {vs : List Nat} {xs : List α} (hi : gi c = some (xs.map e)) (hl : xs.length ≤ sizeLine)
    (hx : ∀ x ∈ xs, ∃ c1, f (e x) (wipeC c vs) = some c1 ∧ p c1 = some (q x) ∧ (q x = true → ge c1 = some (h x))) : gLc gi f p ge vs c = some ((xs.filter q).map h) := by
  unfold gLc
  rw [hi]
  show (if (xs.map e).length ≤ sizeLine then gLcL f p ge (wipeC c vs) (xs.map e) else none) = _
  rw [if_pos (by simpa using hl)]
  exact lc_map hx
theorem e_lc {α : Type} {gi : GA} {f : D → Env → Option Env} {e h : α → D} {vs : List Nat} {xs : List α} (hi : gi c = some (xs.map e)) (hl : xs.length ≤ sizeLine)
    (hx : ∀ x ∈ xs, ∃ c1, f (e x) (wipeC c vs) = some c1 ∧ ge c1 = some (h x)) : gLc gi f gYes ge vs c = some (xs.map h) := by
  have := e_lcF (p := gYes) (ge := ge) (q := fun _ => true) hi hl fun x hm => by
    obtain ⟨c1, h1, h2⟩ := hx x hm
    exact ⟨c1, h1, rfl, fun _ => h2⟩
  rw [show xs.filter (fun _ => true) = xs from List.filter_eq_self.mpr fun _ _ => rfl] at this
  exact this
theorem wp_callX {m : List D → Option Res} {ga : GA} {nxt : D → GS} {ds : List D} {d : D} (h : ga c = some ds) (hm : m ds = some (.val d)) (hP : Wp (nxt d) c P) : Wp (gCallX m ga nxt) c P := by
  obtain ⟨o, h1, h2⟩ := hP
  refine ⟨o, ?_, h2⟩
  unfold gCallX
  rw [h]
  show (match m ds with | some (.val d) => nxt d c | some (.exn C ns es) => some (.ex C ns es) | none => none) = _
  rw [hm]
  exact h1
theorem wp_callX_ex {m : List D → Option Res} {ga : GA} {nxt : D → GS} {ds es : List D} {C : Addr} {ns : List Str} (h : ga c = some ds) (hm : m ds = some (.exn C ns es)) (hP : P (.ex C ns es)) : Wp (gCallX m ga nxt) c P := by
  refine ⟨_, ?_, hP⟩
  unfold gCallX
  rw [h]
  show (match m ds with | some (.val d) => nxt d c | some (.exn C ns es) => some (.ex C ns es) | none => none) = _
  rw [hm]
theorem e_cat {ge' : GE} {a b : List D} (h1 : ge c = some (.lst a)) (h2 : ge' c = some (.lst b)) (hl : a.length + b.length ≤ sizeLine) : gCat ge ge' c = some (a ++ b) := by
  unfold gCat
  rw [h1, h2]
  exact if_pos hl
theorem lc_ex {α β : Type} {f : D → Env → Option Env} {e : α → D} {h : β → D} {S : β → Prop} : ∀ {xs : List α}, (∀ x ∈ xs, ∃ c1 y, f (e x) c = some c1 ∧ ge c1 = some (h y) ∧ S y) → ∃ ys : List β, gLcL f gYes ge c (xs.map e) = some (ys.map h) ∧ ys.length = xs.length ∧ ∀ y ∈ ys, S y
  | [], _ => ⟨[], rfl, rfl, by simp⟩
  | x :: xs, hx => by
    obtain ⟨c1, y, h1, h2, h3⟩ := hx x (List.mem_cons_self ..)
    obtain ⟨ys, i1, i2, i3⟩ := lc_ex (xs := xs) fun z hz => hx z (List.mem_cons_of_mem _ hz)
    refine ⟨y :: ys, ?_, by simp [i2], by intro z hz; rcases List.mem_cons.mp hz with q | q; rw [q]; exact h3; exact i3 z q⟩
    rw [List.map_cons]
    unfold gLcL
    rw [h1]
    show (match ge c1 with | none => none | some y => match gLcL f gYes ge c (xs.map e) with | some ys => some (y :: ys) | none => none) = _
    rw [h2, i1]
    rfl
theorem e_lcE {α β : Type} {gi : GA} {f : D → Env → Option Env} {e : α → D} {h : β → D} {S : β → Prop} {vs : List Nat} {xs : List α} (hi : gi c = some (xs.map e)) (hl : xs.length ≤ sizeLine)
    (hx : ∀ x ∈ xs, ∃ c1 y, f (e x) (wipeC c vs) = some c1 ∧ ge c1 = some (h y) ∧ S y) : ∃ ys : List β, gLc gi f gYes ge vs c = some (ys.map h) ∧ ys.length = xs.length ∧ ∀ y ∈ ys, S y := by
  obtain ⟨ys, h1, h2⟩ := lc_ex hx
  refine ⟨ys, ?_, h2⟩
  unfold gLc
  rw [hi]
  show (if (xs.map e).length ≤ sizeLine then gLcL f gYes ge (wipeC c vs) (xs.map e) else none) = _
  rw [if_pos (by simpa using hl)]
  exact h1
theorem rgD_map (n : Nat) : rgD 0 n = (List.range n).map fun (i : Nat) => D.int (i : Nat) := by
  unfold rgD
  apply List.map_congr_left
  intro i _
  rw [Int.zero_add]
theorem e_make {C : Addr} {m : List D → Option (List Str × List D)} {gs : GA} {ds es : List D} {ns : List Str} (h : gs c = some ds) (hm : m ds = some (ns, es)) : gMake C m gs c = some (.ins C ns es) := by
  unfold gMake
  rw [h]
  show (match m ds with | some (ns, es) => some (D.ins C ns es) | none => none) = _
  rw [hm]
theorem wp_mx {i : Nat} {m : List D → Option (List D × List D)} {ga : GA} {gx : GX} {ds as es : List D} (h : ga c = some ds) (hm : m ds = some (as, es)) (hi : i < c.length) (hP : Wp (gx as es) (c.set i none) P) : Wp (gMx i m ga gx) c P := by
  obtain ⟨o, h1, h2⟩ := hP
  refine ⟨o, ?_, h2⟩
  unfold gMx
  rw [h]
  show (match m ds with | some (as, es) => if i < c.length then gx as es (c.set i none) else none | none => none) = _
  rw [hm]
  exact (if_pos hi).trans h1
theorem wp_xasg {i j : Nat} {gx : GX} {as es : List D} {d : D} (h : ge c = some d) (hij : i ≠ j) (hP : Wp (gx as es) (c.set j (some (.fz d))) P) : Wp (gXAsg i j ge gx as es) c P := by
  obtain ⟨o, h1, h2⟩ := hP
  refine ⟨o, ?_, h2⟩
  unfold gXAsg
  rw [h]
  exact (if_neg hij).trans h1
theorem wp_xapp {i : Nat} {k : Int} {tst : GB} {gx : GX} {as es : List D} {b : Bool} {n : Int} {d : D} (S : List D → Prop) (ht : tst c = some b) (h0 : S es) (hk : k = as.length) (he : ge (c.set i (some (.fz (.lst (as ++ [.lst es]))))) = some (.int n)) (hd : atI es n = some d) (hl : es.length < sizeLine) (h1 : S (es ++ [d])) (hP : ∀ es', S es' → Wp (gx as es') c P) : Wp (gXApp i k tst ge gx as es) c P := by
  cases b with
  | false =>
    obtain ⟨o, q1, q2⟩ := hP es h0
    exact ⟨o, by unfold gXApp; rw [ht]; exact q1, q2⟩
  | true =>
    obtain ⟨o, q1, q2⟩ := hP _ h1
    refine ⟨o, ?_, q2⟩
    unfold gXApp
    rw [ht]
    show (if k = as.length then match ge (c.set i (some (.fz (.lst (as ++ [.lst es]))))) with
      | some (.int n) => match atI es n with
        | some d => if es.length < sizeLine then gx as (es ++ [d]) c else none
        | none => none
      | _ => none
      else none) = _
    rw [if_pos hk, he]
    show (match atI es n with | some d => if es.length < sizeLine then gx as (es ++ [d]) c else none | none => none) = _
    rw [hd]
    exact (if_pos hl).trans q1
theorem wp_xdone {i : Nat} {as es : List D} (hP : Wp g (c.set i (some (.fz (.lst (as ++ [.lst es]))))) P) : Wp (gXDone i g as es) c P := hP
theorem wp_try_ex {i : Nat} {C : Addr} {m : List D → Option Res} {ga : GA} {ds es : List D} {ns : List Str} (h : ga c = some ds) (hm : m ds = some (.exn C ns es)) (hn : (c.set i none).all notExc = true) (hP : Wp g (c.set i (some (.exc C ns es))) (fun o => ∃ d, o = .ret d ∧ P (.ret d))) : Wp (gTry i C m ga g) c P := by
  obtain ⟨o, h1, d, rfl, h2⟩ := hP
  refine ⟨.ret d, ?_, h2⟩
  simp only [gTry, h, hm, h1, hn, and_self, if_true]
theorem e_xf {i : Nat} {C : Addr} {f : Str} {ns : List Str} {es : List D} {d : D} (hc : c[i]? = some (some (.exc C ns es))) (h : lookD ns es f = some d) : gXf i C f c = some d := by
  unfold gXf
  rw [hc]
  exact (if_pos rfl).trans h
/-! a body that returns a new list whose last item is its own -/
def WpM (g : GM) (c : Env) (P : List D × List D → Prop) : Prop := ∃ x, g c = some x ∧ P x
theorem wm_seq {g2 : GM} {P : List D × List D → Prop} (h : Wp g1 c fun o => ∃ c', o = .nx c' ∧ WpM g2 c' P) : WpM (gMSeq g1 g2) c P := by
  obtain ⟨o, h1, c', rfl, x, h2, h3⟩ := h
  exact ⟨x, by unfold gMSeq; rw [h1]; exact h2, h3⟩
theorem wm_ret {i : Nat} {ga : GA} {ds es : List D} {P : List D × List D → Prop} (hc : c[i]? = some (some (.own es))) (h : ga c = some ds) (hl : ds.length < sizeLine) (hP : P (ds, es)) : WpM (gMRet i ga) c P :=
  ⟨_, by unfold gMRet; rw [hc]; show (match ga c with | some ds => if ds.length < sizeLine then some (ds, es) else none | none => none) = _; rw [h]; exact if_pos hl, hP⟩
theorem mm_ex {n nn : Nat} {g : GM} {ds : List D} {S : List D × List D → Prop} (hl : ds.length = n) (h : WpM g (VL.envOf nn ds) S) : ∃ r, mmOf n nn g ds = some r ∧ S r := by
  obtain ⟨x, h1, h2⟩ := h
  exact ⟨x, by unfold mmOf; rw [if_pos hl, h1], h2⟩
end
end VL
end

section
/-! VQ: the drawing defs that the laws have in common. -/
namespace VL
open PySem PySem.Spec PyProof.Rows L2
def gCell : GS :=
 (gSeq (gIf (gB (g2 dLt (gLook 1) (gCall fLen (VL.gCons (gLook 0) VL.gNil)))) (gRet (g2 dIx (gLook 0) (gLook 1))) gNext)
 (gSeq (gAsg (gC (.int 17)) (fName 2))
 (gSeq (gFor (gIt (gVar 0)) (fName 3) (gAsg (g2 dMod (gCall fInt (VL.gCons (g2 dAdd (g2 dMul (gLook 2) (gC (.int 31))) (g2 dMod (gCall fInt (VL.gCons (gLook 3) VL.gNil)) (gC (.int 1000003)))) VL.gNil)) (gC (.int 1000003))) (fName 2)))
 (gRet (g2 dMod (gCall fInt (VL.gCons (g2 dMul (g2 dMul (g2 dAdd (gLook 2) (gC (.int 7))) (g2 dAdd (gLook 1) (gC (.int 3)))) (gC (.int 69621))) VL.gNil)) (gC (.int 2147483647)))))))
def gDig : GS :=
 (gSeq (gAsgN 2 (gLen VL.gNil))
 (gSeq (gAsg (gCall fInt (VL.gCons (gLook 0) VL.gNil)) (fName 3))
 (gSeq (gIf (gB (g2 dGe (gLook 3) (g2 dPow (gC (.int 10)) (gC (.int 18))))) (gSeq (gAsg (g2 dMod (gCall fInt (VL.gCons (g2 dSub (gLook 3) (g2 dPow (gC (.int 10)) (gC (.int 18)))) VL.gNil)) (g2 dPow (gC (.int 10)) (gC (.int 64)))) (fName 3))
 (gSeq (gFor (gIt (gVar 1)) (fName 4) (gSeq (gAppend 2 (g2 dMod (gCall fInt (VL.gCons (gLook 3) VL.gNil)) (gLook 4)))
 (gAsg (g2 dFdiv (gCall fInt (VL.gCons (gLook 3) VL.gNil)) (gLook 4)) (fName 3))))
 (gRet (gVar 2)))) gNext)
 (gSeq (gAsg (g2 dMod (gCall fInt (VL.gCons (gLook 3) VL.gNil)) (gC (.int 2147483629))) (fName 5))
 (gSeq (gFor (gRg1 (VL.gCons (gCall fLen (VL.gCons (gLook 1) VL.gNil)) VL.gNil)) (fName 6) (gSeq (gAsg (g2 dMod (gCall fInt (VL.gCons (g2 dAdd (g2 dAdd (g2 dMul (gLook 5) (gC (.int 48271))) (g2 dMul (gC (.int 974711)) (gLook 6))) (gC (.int 12345))) VL.gNil)) (gC (.int 2147483647))) (fName 5))
 (gSeq (gAsg (g2 dMod (gCall fInt (VL.gCons (g2 dMul (gLook 5) (g2 dAdd (g2 dFdiv (gLook 5) (gC (.int 65537))) (gC (.int 3)))) VL.gNil)) (gC (.int 2147483629))) (fName 7))
 (gAppend 2 (g2 dMod (g2 dFdiv (gLook 7) (gC (.int 19))) (g2 dIx (gLook 1) (gLook 6)))))))
 (gRet (gVar 2)))))))
def gWhole : GS :=
 (gRet (gBl (gAnd (gB (gIsi "int" (gLook 0))) (gB (gBl (gNot (gB (gIsi "bool" (gLook 0)))))))))
abbrev iD (xs : List Int) : List D := xs.map D.int
theorem atI_nat {α : Type} {xs : List α} {k : Nat} {x : α} (h : xs[k]? = some x) : atI xs (k : Int) = some x := by
  unfold atI ixN
  have hk : k < xs.length := (List.getElem?_eq_some_iff.mp h).1
  rw [if_pos (by omega), if_pos (by omega)]
  exact h
theorem d_ix {d : D} {ds : List D} {k : Nat} {x : D} (hd : d.items = some ds) (h : ds[k]? = some x) : dIx d (.int k) = some x := by
  unfold dIx
  cases d with
  | str _ => cases hd
  | _ => simp only [hd]; exact atI_nat h
theorem d_mod {i j : Int} (h : 0 < j) : dMod (.int i) (.int j) = some (.int (i % j)) := if_pos h
theorem log_small {j : Int} (h : 0 < j) (h2 : j < 2 ^ 200) : j.natAbs.log2 < 9000 := by
  have h3 : j.natAbs < 2 ^ 200 := by omega
  have h4 : j.natAbs.log2 < 200 := (Nat.log2_lt (by omega)).mpr h3
  omega
theorem d_fdiv {i j : Int} (h : 0 < j) (h2 : j < 2 ^ 200) : dFdiv (.int i) (.int j) = some (.int (i / j)) := if_pos (show CDivW i j from ⟨h, log_small h h2⟩)
theorem d_mul {i j : Int} (h : CMul i j) : dMul (.int i) (.int j) = some (.int (i * j)) := if_pos h
theorem d_pow {i j : Int} (h : CPow i j) : dPow (.int i) (.int j) = some (.int (i ^ j.toNat)) := if_pos h
theorem cmul_r {i j : Int} (h1 : -(2 ^ 64) < j) (h2 : j < 2 ^ 64) : CMul i j := .inr ⟨h1, h2⟩
theorem cmul_l {i j : Int} (h1 : -(2 ^ 64) < i) (h2 : i < 2 ^ 64) : CMul i j := .inl ⟨h1, h2⟩
theorem e_c {d : D} {c : Env} : gC d c = some d := rfl
theorem whole_int (i : Int) : mOf 1 1 gWhole [.int i] = some (.val (.bl true)) := rfl


local macro_rules
  | `(tactic| trivial) => `(tactic| (simp [VL.envOf, VL.g2, gVar, gLook, gC, gCall, VL.gCons, VL.gNil, VL.gTup, gB, gTru, gBl, gNot, gAnd, gOr, gFn, gIt, D.iter, D.items, D.tru, fInt, fLen, dAdd, dSub, dCmp, dLt, dLe, dGt, dGe, d_mod, d_fdiv, d_mul, d_pow, frzAll, frzCell, fName, *]; done))
theorem cell_run (xs : List Int) (k : Nat) (hk : k < 1000) : ∃ n : Int, mOf 2 4 gCell [.scr (iD xs), .int (k : Nat)] = some (.val (.int n)) := by
  by_cases h : k < xs.length
  · refine ⟨xs[k], m_val rfl ?_⟩
    refine wp_seq (wp_ift (by trivial) (wp_ret (d := .int xs[k]) ?_ rfl))
    show dIx (.scr (iD xs)) (.int k) = _
    exact d_ix rfl (by simp [iD, h])
  · have : ∃ d, mOf 2 4 gCell [.scr (iD xs), .int (k : Nat)] = some (.val d) ∧ ∃ n, d = .int n := by
      refine m_ex rfl ?_
      refine wp_seq (wp_iff (by trivial) (wp_next ?_))
      refine wp_seq (wp_set (d := .int 17) rfl ?_)
      refine wp_seq (wp_for (ds := iD xs) rfl ?_)
      refine wpl_all (fun _ c => ∃ (s : Int) (y : Option Cell), 0 ≤ s ∧ s < 1000003 ∧ c = [some (.fz (.scr (iD xs))), some (.fz (.int k)), some (.fz (.int s)), y]) ?_ ?_ ?_
      · exact ⟨17, none, by decide, by decide, rfl⟩
      · rintro done x rest c - ⟨s, y, h1, h2, rfl⟩
        refine ⟨_, rfl, ?_⟩
        have m1 : CMul s 31 := cmul_r (by decide) (by decide)
        refine wp_set (d := .int ((s * 31 + x % 1000003) % 1000003)) (by trivial) ?_
        exact ⟨_, _, Int.emod_nonneg _ (by decide), Int.emod_lt_of_pos _ (by decide), rfl⟩
      · rintro c ⟨s, y, h1, h2, rfl⟩
        have m1 : CMul (s + 7) ((k : Int) + 3) := cmul_r (by omega) (by omega)
        have m2 : CMul ((s + 7) * ((k : Int) + 3)) 69621 := cmul_r (by decide) (by decide)
        refine wp_ret (d := .int (((s + 7) * ((k : Int) + 3) * 69621) % 2147483647)) (by trivial) ⟨_, rfl, _, rfl⟩
    obtain ⟨d, h1, n, rfl⟩ := this
    exact ⟨n, h1⟩
/-- the digits are below the sizes -/
def Dig (ds sz : List Int) : Prop := ds.length = sz.length ∧ ∀ (i : Nat) (d s : Int), ds[i]? = some d → sz[i]? = some s → 0 ≤ d ∧ d < s
theorem dig_snoc {ds done : List Int} {x d : Int} (h : Dig ds done) (h1 : 0 ≤ d) (h2 : d < x) : Dig (ds ++ [d]) (done ++ [x]) := by
  refine ⟨by simp [h.1], fun i e s he hs => ?_⟩
  by_cases hi : i < ds.length
  · rw [List.getElem?_append_left hi] at he
    rw [List.getElem?_append_left (by rw [← h.1]; exact hi)] at hs
    exact h.2 i e s he hs
  · rw [List.getElem?_append_right (by omega)] at he
    rw [List.getElem?_append_right (by rw [← h.1]; omega)] at hs
    have hl := h.1
    have e0 : i - ds.length = 0 := by
      have := (List.getElem?_eq_some_iff.mp he).1
      simp at this
      omega
    rw [e0] at he
    rw [← hl, e0] at hs
    cases he; cases hs
    exact ⟨h1, h2⟩
theorem dig_run (n : Int) (sz : List Int) (hs : ∀ s ∈ sz, 0 < s ∧ s < 2 ^ 200) (hl : sz.length < 10000) : ∃ ds : List Int, mOf 2 8 gDig [.int n, .lst (iD sz)] = some (.val (.lst (iD ds))) ∧ Dig ds sz := by
  have key : ∃ d, mOf 2 8 gDig [.int n, .lst (iD sz)] = some (.val d) ∧ ∃ ds, d = .lst (iD ds) ∧ Dig ds sz := by
    refine m_ex rfl ?_
    have p1 : CPow 10 18 := ⟨by decide, by decide, by decide⟩
    have p2 : CPow 10 64 := ⟨by decide, by decide, by decide⟩
    refine wp_seq (wp_asgN (ds := []) rfl ?_)
    refine wp_seq (wp_set (d := .int n) rfl ?_)
    refine wp_seq (wp_if (b := decide (10 ^ 18 ≤ n)) (by trivial) (fun hc => ?_) (fun hc => wp_next ?_))
    · have p3 : (0 : Int) < 10 ^ 64 := by decide
      refine wp_seq (wp_set (d := .int ((n - 10 ^ 18) % 10 ^ 64)) (by trivial) ?_)
      refine wp_seq (wp_for (ds := iD sz) rfl ?_)
      refine wpl_all (fun done c => ∃ (r : Int) (ds : List Int) (y : Option Cell), Dig ds done ∧ c = [some (.fz (.int n)), some (.fz (.lst (iD sz))), some (.own (iD ds)), some (.fz (.int r)), y, none, none, none]) ?_ ?_ ?_
      · exact ⟨_, [], none, ⟨rfl, by simp⟩, rfl⟩
      · rintro done x rest c q ⟨r, ds, y, hd, rfl⟩
        have hx := hs x (by rw [q]; simp)
        have hx1 := hx.1
        have hx2 := hx.2
        have hlen : ds.length < 10000 := by
          have := congrArg List.length q
          simp at this
          have := hd.1
          omega
        refine ⟨_, rfl, ?_⟩
        refine wp_seq (wp_append (ds := iD ds) (d := .int (r % x)) rfl (by trivial) (by simp [iD]; unfold sizeLine; omega) ?_)
        have m1 : dFdiv (.int r) (.int x) = some (.int (r / x)) := d_fdiv hx1 hx2
        refine wp_set (d := .int (r / x)) (by trivial) ?_
        exact ⟨_, ds ++ [r % x], _, dig_snoc hd (Int.emod_nonneg _ (by omega)) (Int.emod_lt_of_pos _ hx1), by simp [iD]; exact ⟨rfl, rfl⟩⟩
      · rintro c ⟨r, ds, y, hd, rfl⟩
        exact wp_ret (d := .lst (iD ds)) rfl ⟨_, rfl, ds, rfl, hd⟩
    · refine wp_seq (wp_set (d := .int (n % 2147483629)) (by trivial) ?_)
      refine wp_seq (wp_for (ds := rgD 0 sz.length) ?_ ?_)
      · have h := e_rg1 (c := [some (.fz (.int n)), some (.fz (.lst (iD sz))), some (.own []), some (.fz (.int n)), none, some (.fz (.int (n % 2147483629))), none, none]) (n := (sz.length : Nat)) (ga := VL.gCons (gCall fLen (VL.gCons (gLook 1) VL.gNil)) VL.gNil) (by trivial) (by omega) (by omega)
        exact h
      refine wpl_rg (fun k c => ∃ (s : Int) (ds : List Int) (y z : Option Cell), 0 ≤ s ∧ s < 2147483647 ∧ Dig ds (sz.take k) ∧ c = [some (.fz (.int n)), some (.fz (.lst (iD sz))), some (.own (iD ds)), some (.fz (.int n)), none, some (.fz (.int s)), y, z]) ?_ ?_ ?_
      · exact ⟨_, [], none, none, Int.emod_nonneg _ (by decide), by have := Int.emod_lt_of_pos n (show (0 : Int) < 2147483629 by decide); omega, ⟨by simp, by simp⟩, rfl⟩
      · rintro k c hk ⟨s, ds, y, z, h0, h1, hd, rfl⟩
        have hx := hs sz[k] (List.getElem_mem _)
        have hx1 := hx.1
        have hlen : ds.length = k := by rw [hd.1, List.length_take]; omega
        refine ⟨_, rfl, ?_⟩
        have m1 : CMul s 48271 := cmul_r (by decide) (by decide)
        have m2 : CMul 974711 (k : Int) := cmul_l (by decide) (by decide)
        have e0 := Int.emod_nonneg (s * 48271 + 974711 * (k : Int) + 12345) (show (2147483647 : Int) ≠ 0 by decide)
        have e1 := Int.emod_lt_of_pos (s * 48271 + 974711 * (k : Int) + 12345) (show (0 : Int) < 2147483647 by decide)
        refine wp_seq (wp_set (d := .int ((s * 48271 + 974711 * (k : Int) + 12345) % 2147483647)) (by trivial) ?_)
        generalize (s * 48271 + 974711 * (k : Int) + 12345) % 2147483647 = t at e0 e1 ⊢
        have m3 : CMul t (t / 65537 + 3) := cmul_l (by omega) (by omega)
        have m4 : dFdiv (.int t) (.int 65537) = some (.int (t / 65537)) := d_fdiv (by decide) (by decide)
        refine wp_seq (wp_set (d := .int (t * (t / 65537 + 3) % 2147483629)) (by trivial) ?_)
        generalize t * (t / 65537 + 3) % 2147483629 = u
        have m5 : dFdiv (.int u) (.int 19) = some (.int (u / 19)) := d_fdiv (by decide) (by decide)
        have m6 : dIx (.lst (iD sz)) (.int (k : Nat)) = some (.int sz[k]) := d_ix rfl (by simp [iD, hk])
        refine wp_append (ds := iD ds) (d := .int (u / 19 % sz[k])) rfl (by trivial) (by simp [iD]; unfold sizeLine; omega) ?_
        refine ⟨t, ds ++ [u / 19 % sz[k]], _, _, e0, e1, ?_, by simp [iD]; exact ⟨rfl, rfl⟩⟩
        rw [List.take_succ, List.getElem?_eq_getElem hk]
        exact dig_snoc hd (Int.emod_nonneg _ (by omega)) (Int.emod_lt_of_pos _ hx1)
      · rintro c ⟨s, ds, y, z, h0, h1, hd, rfl⟩
        refine wp_ret (d := .lst (iD ds)) rfl ⟨_, rfl, ds, rfl, ?_⟩
        rw [List.take_length] at hd
        exact hd
  obtain ⟨d, h1, ds, rfl, h2⟩ := key
  exact ⟨ds, h1, h2⟩
end VL
end

section
/-! VR: plain types told as data; == and slices on them. -/
namespace VL
open PySem PySem.Spec PyProof.Rows L2
/-- a plain type that is told as data: == is = -/
structure Emb {α : Type} [DecidableEq α] (e : α → D) (n : Nat) where
  p : α → PyData
  hp : ∀ a, (e a).py = some (p a)
  ev : ∀ a b, PyData.eqv (p a) (p b) = decide (a = b)
  ly : ∀ a, (p a).canLay0 = true
  dp : ∀ a, (p a).depth ≤ n
theorem dEqB_of {x y : D} {b : Bool} (h : dEqG x y = some b) : dEqB x y = some b := by
  unfold dEqB
  split
  · rename_i i j
    unfold dEqG at h
    simp only [D.py] at h
    split at h
    · rw [← h]; simp only [PyData.eqv]; exact congrArg some (Bool.eq_iff_iff.mpr (by simp))
    · cases h
  · rename_i a c
    unfold dEqG at h
    simp only [D.py] at h
    split at h
    · rw [← h]; simp [PyData.eqv]; exact Bool.beq_eq_decide_eq a c
    · cases h
  · exact h
section
variable {α β γ : Type} [DecidableEq α] [DecidableEq β] [DecidableEq γ] {e : α → D} {f : β → D} {g : γ → D} {n m k : Nat}
theorem Emb.eqB (h : Emb e n) (hn : n ≤ 64) (a b : α) : dEqB (e a) (e b) = some (decide (a = b)) := by
  refine dEqB_of ?_
  unfold dEqG
  rw [h.hp, h.hp]
  have s : ∀ x, SeqAt.shaped (h.p x) = true := fun x => by
    unfold SeqAt.shaped
    rw [h.ly x, Bool.true_and]
    exact decide_eq_true (Nat.le_trans (h.dp x) hn)
  show (if SeqAt.shaped (h.p a) = true ∧ SeqAt.shaped (h.p b) = true then some (PyData.eqv (h.p a) (h.p b)) else none) = _
  rw [if_pos ⟨s a, s b⟩, h.ev]
theorem Emb.eq (h : Emb e n) (hn : n ≤ 64) (a b : α) : dEq (e a) (e b) = some (.bl (decide (a = b))) := by
  unfold dEq
  rw [h.eqB hn]; rfl
theorem Emb.ne (h : Emb e n) (hn : n ≤ 64) (a b : α) : dNe (e a) (e b) = some (.bl (!decide (a = b))) := by
  unfold dNe
  rw [h.eqB hn]; rfl
theorem pyL_map (h : Emb e n) : ∀ xs : List α, D.pyL (xs.map e) = some (xs.map h.p)
  | [] => rfl
  | x :: xs => by
    rw [List.map_cons]
    unfold D.pyL
    rw [h.hp, pyL_map h xs]
    rfl
theorem eqvAll_mapE (h : Emb e n) : ∀ xs ys : List α, PyData.eqvAll (xs.map h.p) (ys.map h.p) = decide (xs = ys)
  | [], [] => by simp [PyData.eqvAll]
  | [], _ :: _ => by simp [PyData.eqvAll]
  | _ :: _, [] => by simp [PyData.eqvAll]
  | x :: xs, y :: ys => by
    rw [List.map_cons, List.map_cons, PyData.eqvAll, h.ev x y, eqvAll_mapE h xs ys, ← Bool.decide_and]
    exact decide_eq_decide.mpr (by rw [List.cons.injEq])
theorem layAll_mapE (h : Emb e n) : ∀ xs : List α, PyData.canLayAll0 (xs.map h.p) = true
  | [] => by simp [PyData.canLayAll0]
  | x :: xs => by rw [List.map_cons, PyData.canLayAll0, h.ly x, layAll_mapE h xs]; rfl
theorem depthAll_mapE (h : Emb e n) : ∀ xs : List α, PyData.depthAll (xs.map h.p) ≤ n
  | [] => by simp [PyData.depthAll]
  | x :: xs => by rw [List.map_cons, PyData.depthAll]; exact Nat.max_le.mpr ⟨h.dp x, depthAll_mapE h xs⟩
def Emb.int : Emb D.int 0 where
  p := .int
  hp _ := rfl
  ev a b := by simp only [PyData.eqv]; exact Bool.eq_iff_iff.mpr (by simp)
  ly _ := by simp [PyData.canLay0]
  dp _ := by simp [PyData.depth]
def Emb.tup (h : Emb e n) : Emb (fun xs : List α => .tup (xs.map e)) (n + 1) where
  p xs := .tuple (xs.map h.p)
  hp xs := by simp only [D.py]; rw [pyL_map h]; rfl
  ev xs ys := by simp only [PyData.eqv]; exact eqvAll_mapE h xs ys
  ly xs := by simp only [PyData.canLay0]; exact layAll_mapE h xs
  dp xs := by simp only [PyData.depth]; exact Nat.succ_le_succ (depthAll_mapE h xs)
def Emb.lst (h : Emb e n) : Emb (fun xs : List α => .lst (xs.map e)) (n + 1) where
  p xs := .list (xs.map h.p)
  hp xs := by simp only [D.py]; rw [pyL_map h]; rfl
  ev xs ys := by simp only [PyData.eqv]; exact eqvAll_mapE h xs ys
  ly xs := by simp only [PyData.canLay0]; exact layAll_mapE h xs
  dp xs := by simp only [PyData.depth]; exact Nat.succ_le_succ (depthAll_mapE h xs)
def Emb.pair (h : Emb e n) (h' : Emb f m) : Emb (fun x : α × β => .tup [e x.1, f x.2]) (max n m + 1) where
  p x := .tuple [h.p x.1, h'.p x.2]
  hp x := by simp only [D.py, D.pyL, h.hp, h'.hp]; rfl
  ev x y := by
    simp only [PyData.eqv, PyData.eqvAll, Bool.and_true]
    rw [h.ev, h'.ev, ← Bool.decide_and]
    exact decide_eq_decide.mpr ⟨fun q => Prod.ext q.1 q.2, fun q => by rw [q]; exact ⟨rfl, rfl⟩⟩
  ly x := by simp only [PyData.canLay0, PyData.canLayAll0, h.ly, h'.ly]; rfl
  dp x := by
    have h1 := h.dp x.1
    have h2 := h'.dp x.2
    simp only [PyData.depth, PyData.depthAll]
    omega
def Emb.triple (h : Emb e n) (h' : Emb f m) (h'' : Emb g k) : Emb (fun x : α × β × γ => .tup [e x.1, f x.2.1, g x.2.2]) (max n (max m k) + 1) where
  p x := .tuple [h.p x.1, h'.p x.2.1, h''.p x.2.2]
  hp x := by simp only [D.py, D.pyL, h.hp, h'.hp, h''.hp]; rfl
  ev x y := by
    simp only [PyData.eqv, PyData.eqvAll, Bool.and_true]
    rw [h.ev, h'.ev, h''.ev, ← Bool.decide_and, ← Bool.decide_and]
    exact decide_eq_decide.mpr ⟨fun q => Prod.ext q.1 (Prod.ext q.2.1 q.2.2), fun q => by rw [q]; exact ⟨rfl, rfl, rfl⟩⟩
  ly x := by simp only [PyData.canLay0, PyData.canLayAll0, h.ly, h'.ly, h''.ly]; rfl
  dp x := by
    have h1 := h.dp x.1
    have h2 := h'.dp x.2.1
    have h3 := h''.dp x.2.2
    simp only [PyData.depth, PyData.depthAll]
    omega
end
/-! symbols, forms, rules -/
abbrev Lt := Fin 128
inductive Sy where
  | v (i : Int)
  | l (c : Lt)
  deriving DecidableEq
def ltS (c : Lt) : Str := ⟨#[c.val]⟩
def Sy.D : Sy → VL.D
  | .v i => .int i
  | .l c => .str (ltS c)
abbrev Form := List Sy
abbrev Rule := Form × Form
abbrev fD (f : Form) : D := .tup (f.map Sy.D)
abbrev rD (r : Rule) : D := .tup [fD r.1, fD r.2]
def alD (al : List Lt) : D := .str ⟨(al.map Fin.val).toArray⟩
def Emb.sy : Emb Sy.D 0 where
  p
    | .v i => .int i
    | .l c => .str (ltS c)
  hp a := by cases a <;> rfl
  ev a b := by
    cases a with
    | v i => cases b with
      | v j => simp only [PyData.eqv]; exact Bool.eq_iff_iff.mpr (by simp)
      | l c => simp [PyData.eqv]
    | l c => cases b with
      | v j => simp [PyData.eqv]
      | l d =>
        simp only [PyData.eqv]
        rw [Bool.beq_eq_decide_eq]
        refine decide_eq_decide.mpr ⟨fun q => ?_, fun q => ?_⟩
        · have q2 : c.val = d.val := by
            unfold ltS at q
            simpa using q
          rw [Fin.ext q2]
        · cases q; rfl
  ly a := by
    cases a with
    | v i => simp [PyData.canLay0]
    | l c =>
      have h := c.isLt
      simp only [PyData.canLay0]
      unfold PyData.strOk ltS
      simp
      omega
  dp a := by cases a <;> simp [PyData.depth]
def Emb.form : Emb fD 1 := Emb.sy.tup
def Emb.rule : Emb rD 2 := Emb.form.pair Emb.form
/-! slices -/
theorem cut_map {α : Type} (e : α → D) (xs : List α) (lo hi : Option Int) : cutD (xs.map e) lo hi = ((xs.drop (HT.sIx xs.length 0 lo)).take (HT.sIx xs.length xs.length hi - HT.sIx xs.length 0 lo)).map e := by
  unfold cutD
  rw [List.length_map, List.map_take, List.map_drop]
theorem cut_mid {α : Type} (e : α → D) (xs : List α) (p m : Nat) (h : p ≤ xs.length) : cutD (xs.map e) (some (p : Int)) (some ((p : Int) + (m : Nat))) = ((xs.drop p).take m).map e := by
  rw [cut_map, show (p : Int) + (m : Nat) = ((p + m : Nat) : Int) by simp, HT.sIx_nat, HT.sIx_nat, Nat.min_eq_left h]
  congr 1
  by_cases h2 : p + m ≤ xs.length
  · rw [Nat.min_eq_left h2, show p + m - p = m by omega]
  · rw [Nat.min_eq_right (by omega), List.take_of_length_le (by rw [List.length_drop]; omega), List.take_of_length_le (by rw [List.length_drop]; omega)]
theorem cut_pre {α : Type} (e : α → D) (xs : List α) (p : Nat) : cutD (xs.map e) none (some (p : Int)) = (xs.take p).map e := by
  rw [cut_map, HT.sIx_nat, HT.sIx_none]
  congr 1
  rw [List.drop_zero, Nat.sub_zero]
  by_cases h : p ≤ xs.length
  · rw [Nat.min_eq_left h]
  · rw [Nat.min_eq_right (by omega), List.take_of_length_le (Nat.le_refl _), List.take_of_length_le (by omega)]
theorem cut_suf {α : Type} (e : α → D) (xs : List α) (p : Nat) : cutD (xs.map e) (some (p : Int)) none = (xs.drop p).map e := by
  rw [cut_map, HT.sIx_nat, HT.sIx_none]
  congr 1
  by_cases h : p ≤ xs.length
  · rw [Nat.min_eq_left h, List.take_of_length_le (by rw [List.length_drop]; omega)]
  · rw [Nat.min_eq_right (by omega), List.drop_of_length_le (Nat.le_refl _), List.drop_of_length_le (by omega), List.take_nil]
theorem cut_any {α : Type} (e : α → D) (xs : List α) (p m : Nat) : cutD (xs.map e) (some (p : Int)) (some ((p : Int) + (m : Nat))) = ((xs.drop p).take m).map e := by
  by_cases h : p ≤ xs.length
  · exact cut_mid e xs p m h
  · rw [cut_map, show (p : Int) + (m : Nat) = ((p + m : Nat) : Int) by simp, HT.sIx_nat, HT.sIx_nat, List.drop_of_length_le (show xs.length ≤ min p xs.length by omega), List.drop_of_length_le (show xs.length ≤ p by omega), List.take_nil, List.take_nil]
theorem findIdx_at {α : Type} {p : α → Bool} {x : α} {rest : List α} : ∀ {done : List α}, (∀ y ∈ done, p y = false) → p x = true → (done ++ x :: rest).findIdx? p = some done.length
  | [], _, h => by simp [List.findIdx?_cons, h]
  | y :: ys, h, hx => by
    rw [List.cons_append, List.findIdx?_cons, h y (List.mem_cons_self ..), findIdx_at (fun z hz => h z (List.mem_cons_of_mem _ hz)) hx]
    rfl
section
theorem e_len {c : Env} {g : GE} {d : D} {ds : List D} (h : g c = some d) (hd : d = .lst ds ∨ d = .tup ds ∨ d = .scr ds) : gCall fLen (VL.gCons g VL.gNil) c = some (.int (ds.length : Nat)) := by
  refine e_call (e_cons h rfl) ?_
  rcases hd with rfl | rfl | rfl <;> rfl
theorem e_rgLen {c : Env} {g : GE} {d : D} {ds : List D} (h : g c = some d) (hd : d = .lst ds ∨ d = .tup ds ∨ d = .scr ds) (hl : ds.length < 100000) : gRg1 (VL.gCons (gCall fLen (VL.gCons g VL.gNil)) VL.gNil) c = some (rgD 0 ds.length) := by
  have := e_rg1 (c := c) (n := (ds.length : Nat)) (ga := VL.gCons (gCall fLen (VL.gCons g VL.gNil)) VL.gNil) (e_cons (e_len h hd) rfl) (by omega) (by omega)
  rw [this]
  rfl
theorem e_ln {c : Env} {gs : GA} {xs : List D} (h : gs c = some xs) (hl : xs.length ≤ sizeLine) : gLen gs c = some xs := by
  unfold gLen
  rw [h]
  first | exact if_pos hl | rfl
theorem ix_map {α : Type} {e : α → D} {xs : List α} {k : Nat} {x : α} {d : D} (hd : d.items = some (xs.map e)) (h : xs[k]? = some x) : dIx d (.int (k : Nat)) = some (e x) := d_ix hd (by simp [h])
theorem ix_mod {α : Type} {e : α → D} {xs : List α} (x : Int) {d : D} (hd : d.items = some (xs.map e)) (h : 0 < xs.length) : ∃ y ∈ xs, dIx d (.int (x % (xs.length : Nat))) = some (e y) := by
  have h1 := Int.emod_nonneg x (show (xs.length : Int) ≠ 0 by omega)
  have h2 := Int.emod_lt_of_pos x (show (0 : Int) < (xs.length : Int) by omega)
  obtain ⟨k, hk⟩ := Int.eq_ofNat_of_zero_le h1
  rw [hk] at h2 ⊢
  have h3 : k < xs.length := by omega
  exact ⟨xs[k], List.getElem_mem _, ix_map hd (List.getElem?_eq_getElem h3)⟩
theorem iter_al (al : List Lt) : (alD al).iter = some ((al.map Sy.l).map Sy.D) := by
  show some ((al.map Fin.val).map fun n => D.str ⟨#[n]⟩) = _
  rw [List.map_map, List.map_map]
  rfl
end
end VL
end

section
/-! VS: texts as lists of letters; digits with int(..); the try; looks. -/
namespace VL
open PySem PySem.Spec PyProof.Rows L2
theorem add_al {x y : List Lt} (h : x.length + y.length ≤ sizeLine) : dAdd (alD x) (alD y) = some (alD (x ++ y)) := by
  have e1 : (⟨(x.map Fin.val).toArray⟩ : Str).length = x.length := by show (x.map Fin.val).toArray.size = _; simp
  have e2 : (⟨(y.map Fin.val).toArray⟩ : Str).length = y.length := by show (y.map Fin.val).toArray.size = _; simp
  show (if (⟨(x.map Fin.val).toArray⟩ : Str).length + (⟨(y.map Fin.val).toArray⟩ : Str).length ≤ sizeLine then some (D.str (⟨(x.map Fin.val).toArray⟩ ++ ⟨(y.map Fin.val).toArray⟩)) else none) = _
  rw [e1, e2, if_pos h]
  show some (D.str ⟨(x.map Fin.val).toArray ++ (y.map Fin.val).toArray⟩) = some (D.str ⟨((x ++ y).map Fin.val).toArray⟩)
  rw [List.map_append]
  simp
theorem len_al {x : List Lt} (h : x.length ≤ sizeLine) : fLen [alD x] = some (.int (x.length : Nat)) := by
  have e1 : (⟨(x.map Fin.val).toArray⟩ : Str).length = x.length := by show (x.map Fin.val).toArray.size = _; simp
  show (if (⟨(x.map Fin.val).toArray⟩ : Str).length ≤ sizeLine then some (D.int (⟨(x.map Fin.val).toArray⟩ : Str).length) else none) = _
  rw [e1, if_pos h]
theorem ix_al {x : List Lt} {k : Nat} {c : Lt} (hl : x.length ≤ sizeLine) (h : x[k]? = some c) : dIx (alD x) (.int (k : Nat)) = some (Sy.l c).D := by
  have e1 : (⟨(x.map Fin.val).toArray⟩ : Str).length = x.length := by show (x.map Fin.val).toArray.size = _; simp
  show (if (⟨(x.map Fin.val).toArray⟩ : Str).length ≤ sizeLine then (atI (x.map Fin.val).toArray.toList (k : Int)).map (fun c => D.str ⟨#[c]⟩) else none) = _
  rw [e1, if_pos hl, atI_nat (x := c.val) (by simp [h])]
  rfl
theorem cut_al {x : List Lt} (lo hi : Option Int) (hl : x.length ≤ sizeLine) : dCut (alD x) lo hi = some (alD ((x.drop (HT.sIx x.length 0 lo)).take (HT.sIx x.length x.length hi - HT.sIx x.length 0 lo))) := by
  have e1 : (⟨(x.map Fin.val).toArray⟩ : Str).length = x.length := by show (x.map Fin.val).toArray.size = _; simp
  show (if (⟨(x.map Fin.val).toArray⟩ : Str).length ≤ sizeLine then some (D.str (cutS ⟨(x.map Fin.val).toArray⟩ lo hi)) else none) = _
  rw [e1, if_pos hl]
  unfold cutS
  rw [e1]
  show some (D.str ⟨(((x.map Fin.val).drop _).take _).toArray⟩) = _
  rw [← List.map_drop, ← List.map_take]
  rfl
theorem cut_al_ex {x : List Lt} (lo hi : Option Int) (hl : x.length ≤ sizeLine) : ∃ y : List Lt, dCut (alD x) lo hi = some (alD y) ∧ y.length ≤ x.length :=
  ⟨_, cut_al lo hi hl, by simp [List.length_take, List.length_drop]; omega⟩
theorem strs_al : ∀ ys : List (List Lt), strsOf (ys.map alD) = some (ys.map fun x => ⟨(x.map Fin.val).toArray⟩)
  | [] => rfl
  | y :: ys => by
    show (match strsOf (ys.map alD) with | some xs => some (_ :: xs) | none => none) = _
    rw [strs_al ys]; rfl
theorem glue_al : ∀ (ys : List (List Lt)) (a : Array Nat), (ys.map fun x => (⟨(x.map Fin.val).toArray⟩ : Str)).foldl (fun acc p => acc ++ (#[] : Array Nat) ++ p.cps) a = a ++ (ys.flatten.map Fin.val).toArray
  | [], a => by simp
  | y :: ys, a => by
    rw [List.map_cons, List.foldl_cons, glue_al ys]
    simp
theorem join_al (ys : List (List Lt)) : Txt.join (⟨#[]⟩ : Str) (ys.map fun x => (⟨(x.map Fin.val).toArray⟩ : Str)) = ⟨(ys.flatten.map Fin.val).toArray⟩ := by
  cases ys with
  | nil => rfl
  | cons y ys =>
    show (⟨(ys.map fun x => (⟨(x.map Fin.val).toArray⟩ : Str)).foldl (fun acc p => acc ++ (#[] : Array Nat) ++ p.cps) (y.map Fin.val).toArray⟩ : Str) = _
    rw [glue_al]
    simp
theorem dJoin_al (ys : List (List Lt)) (h : ys.flatten.length ≤ 10000000) : dJoin (.str "") (.lst (ys.map alD)) = some (alD ys.flatten) := by
  show (match strsOf (ys.map alD) with | some ys => if (ys.map Str.length).sum + ys.length * (0 : Nat) ≤ 16777216 then some (D.str (Txt.join (⟨#[]⟩ : Str) ys)) else none | none => none) = _
  rw [strs_al]
  have e : ((ys.map fun x => (⟨(x.map Fin.val).toArray⟩ : Str)).map Str.length).sum = ys.flatten.length := by
    rw [List.map_map, List.length_flatten]
    congr 1
    apply List.map_congr_left
    intro x _
    show (x.map Fin.val).toArray.size = _
    simp
  show (if ((ys.map fun x => (⟨(x.map Fin.val).toArray⟩ : Str)).map Str.length).sum + _ * 0 ≤ 16777216 then some (D.str (Txt.join (⟨#[]⟩ : Str) (ys.map fun x => (⟨(x.map Fin.val).toArray⟩ : Str)))) else none) = _
  rw [e, Nat.mul_zero, if_pos (by omega), join_al]
  rfl
/-- str of a letter, or of a small number -/
theorem str_lt (c : Lt) : fStr [(Sy.l c).D] = some (alD [c]) := rfl
theorem str_small (i : Int) (h0 : 0 ≤ i) (h1 : i < 16) : ∃ x : List Lt, fStr [.int i] = some (alD x) ∧ x.length ≤ 2 := by
  have : i = 0 ∨ i = 1 ∨ i = 2 ∨ i = 3 ∨ i = 4 ∨ i = 5 ∨ i = 6 ∨ i = 7 ∨ i = 8 ∨ i = 9 ∨ i = 10 ∨ i = 11 ∨ i = 12 ∨ i = 13 ∨ i = 14 ∨ i = 15 := by omega
  rcases this with rfl | rfl | rfl | rfl | rfl | rfl | rfl | rfl | rfl | rfl | rfl | rfl | rfl | rfl | rfl | rfl
  · exact ⟨[48], rfl, by decide⟩
  · exact ⟨[49], rfl, by decide⟩
  · exact ⟨[50], rfl, by decide⟩
  · exact ⟨[51], rfl, by decide⟩
  · exact ⟨[52], rfl, by decide⟩
  · exact ⟨[53], rfl, by decide⟩
  · exact ⟨[54], rfl, by decide⟩
  · exact ⟨[55], rfl, by decide⟩
  · exact ⟨[56], rfl, by decide⟩
  · exact ⟨[57], rfl, by decide⟩
  · exact ⟨[49, 48], rfl, by decide⟩
  · exact ⟨[49, 49], rfl, by decide⟩
  · exact ⟨[49, 50], rfl, by decide⟩
  · exact ⟨[49, 51], rfl, by decide⟩
  · exact ⟨[49, 52], rfl, by decide⟩
  · exact ⟨[49, 53], rfl, by decide⟩
theorem flat_len {α : Type} : ∀ (ys : List (List α)) (m : Nat), (∀ y ∈ ys, y.length ≤ m) → ys.flatten.length ≤ m * ys.length
  | [], _, _ => by simp
  | y :: ys, m, h => by
    have h1 := h y (List.mem_cons_self ..)
    have h2 := flat_len ys m fun z hz => h z (List.mem_cons_of_mem _ hz)
    simp only [List.flatten_cons, List.length_append, List.length_cons, Nat.mul_add]
    omega
/-! the try -/
section
variable {c c1 : Env} {P : Out → Prop}
theorem wp_tryG_ret {i : Nat} {C : Addr} {g : GY} {gs : GS} {d : D} (h : g c = some (.ret d)) (hP : P (.ret d)) : Wp (gTryG i C g gs) c P :=
  ⟨.ret d, by unfold gTryG; rw [h], hP⟩
theorem wp_tryG_nx {i : Nat} {C : Addr} {g : GY} {gs : GS} (h : g c = some (.nx c1)) (hP : P (.nx c1)) : Wp (gTryG i C g gs) c P :=
  ⟨.nx c1, by unfold gTryG; rw [h], hP⟩
theorem wp_tryG_ex {i : Nat} {C : Addr} {g : GY} {gs : GS} {ns : List Str} {es : List D} (h : g c = some (.ex c1 C ns es)) (hn : (c1.set i none).all notExc = true) (hP : Wp gs (c1.set i (some (.exc C ns es))) (fun o => ∃ d, o = .ret d ∧ P (.ret d))) : Wp (gTryG i C g gs) c P := by
  obtain ⟨o, h1, d, rfl, h2⟩ := hP
  refine ⟨.ret d, ?_, h2⟩
  unfold gTryG
  rw [h]
  show (if C = C ∧ (c1.set i none).all notExc = true then _ else none) = _
  rw [if_pos ⟨rfl, hn⟩]
  simp only [h1]
theorem x_val {g : GE} {d : D} (h : g c = some d) : gVal g c = some (.val d) := by unfold gVal; rw [h]
theorem x_callR {m : List D → Option Res} {ga : GA} {ds : List D} {r : Res} (h : ga c = some ds) (hm : m ds = some r) : gCallR m ga c = some r := by unfold gCallR; rw [h]; exact hm
theorem x_nil : gXNil c = some (.inl []) := rfl
theorem x_cons {g : GR} {gs : GRs} {d : D} {ds : List D} (h : g c = some (.val d)) (hs : gs c = some (.inl ds)) : gXCons g gs c = some (.inl (d :: ds)) := by unfold gXCons; rw [h, hs]
theorem x_consR {g : GR} {gs : GRs} {d : D} {C : Addr} {ns : List Str} {es : List D} (h : g c = some (.val d)) (hs : gs c = some (.inr (C, ns, es))) : gXCons g gs c = some (.inr (C, ns, es)) := by unfold gXCons; rw [h, hs]
theorem x_consX {g : GR} {gs : GRs} {C : Addr} {ns : List Str} {es : List D} (h : g c = some (.exn C ns es)) : gXCons g gs c = some (.inr (C, ns, es)) := by unfold gXCons; rw [h]
theorem x_tup {gs : GRs} {ds : List D} (h : gs c = some (.inl ds)) (hl : ds.length ≤ sizeLine) : gXTup gs c = some (.val (.tup ds)) := by unfold gXTup; rw [h]; exact if_pos hl
theorem x_tupX {gs : GRs} {C : Addr} {ns : List Str} {es : List D} (h : gs c = some (.inr (C, ns, es))) : gXTup gs c = some (.exn C ns es) := by unfold gXTup; rw [h]
theorem x_2 {f : D → D → Option D} {ga : GR} {gb : GE} {x y z : D} (h1 : ga c = some (.val x)) (h2 : gb c = some y) (h : f x y = some z) : gX2 f ga gb c = some (.val z) := by unfold gX2; rw [h1]; simp only [h2, h]
theorem x_2X {f : D → D → Option D} {ga : GR} {gb : GE} {C : Addr} {ns : List Str} {es : List D} (h1 : ga c = some (.exn C ns es)) : gX2 f ga gb c = some (.exn C ns es) := by unfold gX2; rw [h1]
theorem y_retV {g : GR} {d : D} (h : g (frzAll c) = some (.val d)) : yRet g c = some (.ret d) := by unfold yRet; rw [h]
theorem y_retX {g : GR} {C : Addr} {ns : List Str} {es : List D} (h : g (frzAll c) = some (.exn C ns es)) : yRet g c = some (.ex (frzAll c) C ns es) := by unfold yRet; rw [h]
theorem y_asgV {i : Nat} {g : GR} {d : D} (h : g c = some (.val d)) : yAsg i g c = some (.nx (c.set i (some (.fz d)))) := by unfold yAsg; rw [h]
theorem y_asgX {i : Nat} {g : GR} {C : Addr} {ns : List Str} {es : List D} (h : g c = some (.exn C ns es)) : yAsg i g c = some (.ex c C ns es) := by unfold yAsg; rw [h]
theorem y_exprV {g : GR} {d : D} (h : g c = some (.val d)) : yExpr g c = some (.nx c) := by unfold yExpr; rw [h]
theorem y_exprX {g : GR} {C : Addr} {ns : List Str} {es : List D} (h : g c = some (.exn C ns es)) : yExpr g c = some (.ex c C ns es) := by unfold yExpr; rw [h]
theorem y_seqN {g1 g2 : GY} {o : Option OutY} (h1 : g1 c = some (.nx c1)) (h2 : g2 c1 = o) : ySeq g1 g2 c = o := by unfold ySeq; rw [h1]; exact h2
theorem y_seqR {g1 g2 : GY} {d : D} (h1 : g1 c = some (.ret d)) : ySeq g1 g2 c = some (.ret d) := by unfold ySeq; rw [h1]
theorem y_seqX {g1 g2 : GY} {C : Addr} {ns : List Str} {es : List D} (h1 : g1 c = some (.ex c1 C ns es)) : ySeq g1 g2 c = some (.ex c1 C ns es) := by unfold ySeq; rw [h1]
theorem y_ift {p : GB} {g1 g2 : GY} {o : Option OutY} (hp : p c = some true) (h : g1 c = o) : yIf p g1 g2 c = o := by unfold yIf; rw [hp]; exact h
theorem y_iff {p : GB} {g1 g2 : GY} {o : Option OutY} (hp : p c = some false) (h : g2 c = o) : yIf p g1 g2 c = o := by unfold yIf; rw [hp]; exact h
theorem wp_retXV {g : GR} {d : D} (h : g (frzAll c) = some (.val d)) (hP : P (.ret d)) : Wp (gRetX g) c P := ⟨_, by unfold gRetX; rw [h], hP⟩
theorem wp_retXX {g : GR} {C : Addr} {ns : List Str} {es : List D} (h : g (frzAll c) = some (.exn C ns es)) (hP : P (.ex C ns es)) : Wp (gRetX g) c P := ⟨_, by unfold gRetX; rw [h], hP⟩
theorem e_imm {g : GE} {d : D} (h : g c = some d) (hi : d.imm = true) : gImm g c = some d := by
  unfold gImm
  rw [h]
  exact if_pos hi
theorem e_isX {i : Nat} {C : Addr} {ns : List Str} {es : List D} {ans : Bool} (hc : c[i]? = some (some (.exc C ns es))) : gIsX i C ans c = some (.bl ans) := by
  unfold gIsX
  rw [hc]
  exact if_pos rfl
end
theorem imm_map {α : Type} {e : α → D} (h : ∀ a, (e a).imm = true) : ∀ xs : List α, D.immL (xs.map e) = true
  | [] => rfl
  | x :: xs => by
    rw [List.map_cons, D.immL, h, imm_map h xs]; rfl
theorem imm_sy (s : Sy) : s.D.imm = true := by cases s <;> rfl
theorem imm_form (f : Form) : (fD f).imm = true := by
  show D.immL _ = true
  exact imm_map imm_sy f
theorem imm_forms (fs : List Form) : (D.tup (fs.map fD)).imm = true := by
  show D.immL _ = true
  exact imm_map imm_form fs
/-! digits with int(..) -/
def gDigI : GS :=
 (gSeq (gAsgN 2 (gLen VL.gNil))
 (gSeq (gAsg (gCall fInt (VL.gCons (gLook 0) VL.gNil)) (fName 3))
 (gSeq (gIf (gB (g2 dGe (gLook 3) (g2 dPow (gC (.int 10)) (gC (.int 18))))) (gSeq (gAsg (g2 dMod (gCall fInt (VL.gCons (g2 dSub (gLook 3) (g2 dPow (gC (.int 10)) (gC (.int 18)))) VL.gNil)) (g2 dPow (gC (.int 10)) (gC (.int 64)))) (fName 3))
 (gSeq (gFor (gIt (gVar 1)) (fName 4) (gSeq (gAppend 2 (g2 dMod (gCall fInt (VL.gCons (gLook 3) VL.gNil)) (gLook 4)))
 (gAsg (g2 dFdiv (gCall fInt (VL.gCons (gLook 3) VL.gNil)) (gLook 4)) (fName 3))))
 (gRet (gVar 2)))) gNext)
 (gSeq (gAsg (g2 dMod (gCall fInt (VL.gCons (gLook 3) VL.gNil)) (gC (.int 2147483629))) (fName 5))
 (gSeq (gFor (gRg1 (VL.gCons (gCall fLen (VL.gCons (gLook 1) VL.gNil)) VL.gNil)) (fName 6) (gSeq (gAsg (g2 dMod (gCall fInt (VL.gCons (g2 dAdd (g2 dAdd (g2 dMul (gLook 5) (gC (.int 48271))) (g2 dMul (gC (.int 974711)) (gLook 6))) (gC (.int 12345))) VL.gNil)) (gC (.int 2147483647))) (fName 5))
 (gSeq (gAsg (g2 dMod (gCall fInt (VL.gCons (g2 dMul (gLook 5) (g2 dAdd (g2 dFdiv (gLook 5) (gC (.int 65537))) (gC (.int 3)))) VL.gNil)) (gC (.int 2147483629))) (fName 7))
 (gAppend 2 (g2 dMod (gCall fInt (VL.gCons (g2 dFdiv (gLook 7) (gC (.int 19))) VL.gNil)) (g2 dIx (gLook 1) (gLook 6)))))))
 (gRet (gVar 2)))))))
local macro_rules
  | `(tactic| trivial) => `(tactic| (simp [VL.envOf, VL.g2, gVar, gLook, gC, gCall, VL.gCons, VL.gNil, VL.gTup, gB, gTru, gBl, gNot, gAnd, gOr, gFn, gIt, D.iter, D.items, D.tru, fInt, fLen, dAdd, dSub, dCmp, dLt, dLe, dGt, dGe, d_mod, d_fdiv, d_mul, d_pow, frzAll, frzCell, fName, *]; done))
theorem digI_run (n : Int) (sz : List Int) (hs : ∀ s ∈ sz, 0 < s ∧ s < 2 ^ 200) (hl : sz.length < 10000) : ∃ ds : List Int, mOf 2 8 gDigI [.int n, .lst (iD sz)] = some (.val (.lst (iD ds))) ∧ Dig ds sz := by
  have key : ∃ d, mOf 2 8 gDigI [.int n, .lst (iD sz)] = some (.val d) ∧ ∃ ds, d = .lst (iD ds) ∧ Dig ds sz := by
    refine m_ex rfl ?_
    have p1 : CPow 10 18 := ⟨by decide, by decide, by decide⟩
    have p2 : CPow 10 64 := ⟨by decide, by decide, by decide⟩
    refine wp_seq (wp_asgN (ds := []) rfl ?_)
    refine wp_seq (wp_set (d := .int n) rfl ?_)
    refine wp_seq (wp_if (b := decide (10 ^ 18 ≤ n)) (by trivial) (fun hc => ?_) (fun hc => wp_next ?_))
    · have p3 : (0 : Int) < 10 ^ 64 := by decide
      refine wp_seq (wp_set (d := .int ((n - 10 ^ 18) % 10 ^ 64)) (by trivial) ?_)
      refine wp_seq (wp_for (ds := iD sz) rfl ?_)
      refine wpl_all (fun done c => ∃ (r : Int) (ds : List Int) (y : Option Cell), Dig ds done ∧ c = [some (.fz (.int n)), some (.fz (.lst (iD sz))), some (.own (iD ds)), some (.fz (.int r)), y, none, none, none]) ?_ ?_ ?_
      · exact ⟨_, [], none, ⟨rfl, by simp⟩, rfl⟩
      · rintro done x rest c q ⟨r, ds, y, hd, rfl⟩
        have hx := hs x (by rw [q]; simp)
        have hx1 := hx.1
        have hx2 := hx.2
        have hlen : ds.length < 10000 := by
          have := congrArg List.length q
          simp at this
          have := hd.1
          omega
        refine ⟨_, rfl, ?_⟩
        refine wp_seq (wp_append (ds := iD ds) (d := .int (r % x)) rfl (by trivial) (by simp [iD]; unfold sizeLine; omega) ?_)
        have m1 : dFdiv (.int r) (.int x) = some (.int (r / x)) := d_fdiv hx1 hx2
        refine wp_set (d := .int (r / x)) (by trivial) ?_
        exact ⟨_, ds ++ [r % x], _, dig_snoc hd (Int.emod_nonneg _ (by omega)) (Int.emod_lt_of_pos _ hx1), by simp [iD]; exact ⟨rfl, rfl⟩⟩
      · rintro c ⟨r, ds, y, hd, rfl⟩
        exact wp_ret (d := .lst (iD ds)) rfl ⟨_, rfl, ds, rfl, hd⟩
    · refine wp_seq (wp_set (d := .int (n % 2147483629)) (by trivial) ?_)
      refine wp_seq (wp_for (ds := rgD 0 sz.length) ?_ ?_)
      · have h := e_rg1 (c := [some (.fz (.int n)), some (.fz (.lst (iD sz))), some (.own []), some (.fz (.int n)), none, some (.fz (.int (n % 2147483629))), none, none]) (n := (sz.length : Nat)) (ga := VL.gCons (gCall fLen (VL.gCons (gLook 1) VL.gNil)) VL.gNil) (by trivial) (by omega) (by omega)
        exact h
      refine wpl_rg (fun k c => ∃ (s : Int) (ds : List Int) (y z : Option Cell), 0 ≤ s ∧ s < 2147483647 ∧ Dig ds (sz.take k) ∧ c = [some (.fz (.int n)), some (.fz (.lst (iD sz))), some (.own (iD ds)), some (.fz (.int n)), none, some (.fz (.int s)), y, z]) ?_ ?_ ?_
      · exact ⟨_, [], none, none, Int.emod_nonneg _ (by decide), by have := Int.emod_lt_of_pos n (show (0 : Int) < 2147483629 by decide); omega, ⟨by simp, by simp⟩, rfl⟩
      · rintro k c hk ⟨s, ds, y, z, h0, h1, hd, rfl⟩
        have hx := hs sz[k] (List.getElem_mem _)
        have hx1 := hx.1
        have hlen : ds.length = k := by rw [hd.1, List.length_take]; omega
        refine ⟨_, rfl, ?_⟩
        have m1 : CMul s 48271 := cmul_r (by decide) (by decide)
        have m2 : CMul 974711 (k : Int) := cmul_l (by decide) (by decide)
        have e0 := Int.emod_nonneg (s * 48271 + 974711 * (k : Int) + 12345) (show (2147483647 : Int) ≠ 0 by decide)
        have e1 := Int.emod_lt_of_pos (s * 48271 + 974711 * (k : Int) + 12345) (show (0 : Int) < 2147483647 by decide)
        refine wp_seq (wp_set (d := .int ((s * 48271 + 974711 * (k : Int) + 12345) % 2147483647)) (by trivial) ?_)
        generalize (s * 48271 + 974711 * (k : Int) + 12345) % 2147483647 = t at e0 e1 ⊢
        have m3 : CMul t (t / 65537 + 3) := cmul_l (by omega) (by omega)
        have m4 : dFdiv (.int t) (.int 65537) = some (.int (t / 65537)) := d_fdiv (by decide) (by decide)
        refine wp_seq (wp_set (d := .int (t * (t / 65537 + 3) % 2147483629)) (by trivial) ?_)
        generalize t * (t / 65537 + 3) % 2147483629 = u
        have m5 : dFdiv (.int u) (.int 19) = some (.int (u / 19)) := d_fdiv (by decide) (by decide)
        have m6 : dIx (.lst (iD sz)) (.int (k : Nat)) = some (.int sz[k]) := d_ix rfl (by simp [iD, hk])
        refine wp_append (ds := iD ds) (d := .int (u / 19 % sz[k])) rfl (by trivial) (by simp [iD]; unfold sizeLine; omega) ?_
        refine ⟨t, ds ++ [u / 19 % sz[k]], _, _, e0, e1, ?_, by simp [iD]; exact ⟨rfl, rfl⟩⟩
        rw [List.take_succ, List.getElem?_eq_getElem hk]
        exact dig_snoc hd (Int.emod_nonneg _ (by omega)) (Int.emod_lt_of_pos _ hx1)
      · rintro c ⟨s, ds, y, z, h0, h1, hd, rfl⟩
        refine wp_ret (d := .lst (iD ds)) rfl ⟨_, rfl, ds, rfl, ?_⟩
        rw [List.take_length] at hd
        exact hd
  obtain ⟨d, h1, ds, rfl, h2⟩ := key
  exact ⟨ds, h1, h2⟩
theorem dig_at {row sz : List Int} (h : Dig row sz) {i : Nat} {s : Int} (hs : sz[i]? = some s) : ∃ k : Nat, row[i]? = some (k : Int) ∧ (k : Int) < s := by
  have hi : i < sz.length := (List.getElem?_eq_some_iff.mp hs).1
  have hi2 : i < row.length := by rw [h.1]; exact hi
  have hg : row[i]? = some row[i] := List.getElem?_eq_getElem hi2
  obtain ⟨h1, h2⟩ := h.2 i _ s hg hs
  obtain ⟨k, hk⟩ := Int.eq_ofNat_of_zero_le h1
  refine ⟨k, ?_, ?_⟩
  · rw [hg, hk]
  · rw [← hk]; exact h2
/-- a digit, read -/
theorem row_at {row sz : List Int} (h : Dig row sz) (i : Nat) {s : Int} (hs : sz[i]? = some s) : ∃ k : Nat, dIx (.lst (iD row)) (.int (i : Nat)) = some (.int (k : Int)) ∧ (k : Int) < s := by
  obtain ⟨k, h1, h2⟩ := dig_at h hs
  exact ⟨k, ix_map rfl h1, h2⟩
/-! lists and tuples of typed data -/
section
variable {α : Type} {e : α → D} {xs ys : List α} {c : Env} {g : GE}
theorem e_lenM (h : g c = some (.lst (xs.map e))) : gCall fLen (VL.gCons g VL.gNil) c = some (.int (xs.length : Nat)) := by
  have := e_len h (.inl rfl); rw [List.length_map] at this; exact this
theorem e_lenT (h : g c = some (.tup (xs.map e))) : gCall fLen (VL.gCons g VL.gNil) c = some (.int (xs.length : Nat)) := by
  have := e_len h (.inr (.inl rfl)); rw [List.length_map] at this; exact this
theorem e_rgM (h : g c = some (.lst (xs.map e))) (hl : xs.length < 100000) : gRg1 (VL.gCons (gCall fLen (VL.gCons g VL.gNil)) VL.gNil) c = some (rgD 0 xs.length) := by
  have := e_rgLen h (.inl rfl) (by simpa using hl); rw [List.length_map] at this; exact this
theorem e_rgT (h : g c = some (.tup (xs.map e))) (hl : xs.length < 100000) : gRg1 (VL.gCons (gCall fLen (VL.gCons g VL.gNil)) VL.gNil) c = some (rgD 0 xs.length) := by
  have := e_rgLen h (.inr (.inl rfl)) (by simpa using hl); rw [List.length_map] at this; exact this
theorem add_lst (h : xs.length + ys.length ≤ sizeLine) : dAdd (.lst (xs.map e)) (.lst (ys.map e)) = some (.lst ((xs ++ ys).map e)) := by
  show (if (xs.map e).length + (ys.map e).length ≤ sizeLine then some (D.lst (xs.map e ++ ys.map e)) else none) = _
  rw [if_pos (by simpa using h), List.map_append]
theorem add_tup (h : xs.length + ys.length ≤ sizeLine) : dAdd (.tup (xs.map e)) (.tup (ys.map e)) = some (.tup ((xs ++ ys).map e)) := by
  show (if (xs.map e).length + (ys.map e).length ≤ sizeLine then some (D.tup (xs.map e ++ ys.map e)) else none) = _
  rw [if_pos (by simpa using h), List.map_append]
theorem cutL_pre (k : Nat) : dCut (.lst (xs.map e)) none (some (k : Int)) = some (.lst ((xs.take k).map e)) := by
  show some (D.lst (cutD (xs.map e) _ _)) = _
  rw [cut_pre]
theorem cutL_suf (k : Nat) : dCut (.lst (xs.map e)) (some (k : Int)) none = some (.lst ((xs.drop k).map e)) := by
  show some (D.lst (cutD (xs.map e) _ _)) = _
  rw [cut_suf]
theorem cutL_any (p m : Nat) : dCut (.lst (xs.map e)) (some (p : Int)) (some ((p : Int) + (m : Nat))) = some (.lst (((xs.drop p).take m).map e)) := by
  show some (D.lst (cutD (xs.map e) _ _)) = _
  rw [cut_any]
theorem cutL_mid (p q : Nat) : dCut (.lst (xs.map e)) (some (p : Int)) (some (q : Int)) = some (.lst (((xs.drop p).take (q - p)).map e)) := by
  show some (D.lst (cutD (xs.map e) _ _)) = _
  by_cases h : p ≤ q
  · obtain ⟨m, rfl⟩ := Nat.exists_eq_add_of_le h
    rw [show ((p + m : Nat) : Int) = (p : Int) + (m : Nat) by simp, cut_any, Nat.add_sub_cancel_left]
  · rw [cut_map, HT.sIx_nat, HT.sIx_nat, show min q xs.length - min p xs.length = 0 by omega, show q - p = 0 by omega]
    simp
theorem cutT_mid (p q : Nat) : dCut (.tup (xs.map e)) (some (p : Int)) (some (q : Int)) = some (.tup (((xs.drop p).take (q - p)).map e)) := by
  show some (D.tup (cutD (xs.map e) _ _)) = _
  by_cases h : p ≤ q
  · obtain ⟨m, rfl⟩ := Nat.exists_eq_add_of_le h
    rw [show ((p + m : Nat) : Int) = (p : Int) + (m : Nat) by simp, cut_any, Nat.add_sub_cancel_left]
  · rw [cut_map, HT.sIx_nat, HT.sIx_nat, show min q xs.length - min p xs.length = 0 by omega, show q - p = 0 by omega]
    simp
end
theorem mul_iD (a : List Int) (n : Nat) (h : a.length * n ≤ 1000000) (hn : n < 1000000) : dMul (.lst (iD a)) (.int (n : Nat)) = some (.lst (iD (List.replicate n a).flatten)) := by
  have hs : 1000000 ≤ sizeLine := by unfold sizeLine; omega
  unfold dMul
  simp only []
  rw [if_pos ⟨by omega, by omega, by rw [List.length_map, Int.toNat_natCast]; omega⟩, Int.toNat_natCast]
  congr 2
  show _ = ((List.replicate n a).flatten).map D.int
  rw [List.map_flatten, List.map_replicate]
abbrev nD (k : Nat) : D := .int (k : Nat)
theorem rg_nD (n : Nat) : rgD 0 n = (List.range n).map nD := rgD_map n
theorem wp_setIx {c : Env} {P : Out → Prop} {i : Nat} {gk ge : GE} {ds : List D} {d : D} {j : Nat} (hc : c[i]? = some (some (.own ds))) (he : ge c = some d) (hk : gk c = some (.int (j : Nat))) (hj : j < ds.length) (hP : P (.nx (c.set i (some (.own (ds.set j d)))))) : Wp (gSetIx i gk ge) c P := by
  refine ⟨.nx (c.set i (some (.own (ds.set j d)))), ?_, hP⟩
  have h1 : ixN ds.length (j : Int) = some j := by
    unfold ixN
    rw [if_pos (by omega), if_pos (by omega)]
    rfl
  unfold gSetIx
  simp only [hc, he, hk, h1]
theorem eqV_int (i j : Int) : eqV (D.int i).toV (D.int j).toV = decide (i = j) := by
  show (i == j) = _
  exact Bool.eq_iff_iff.mpr (by simp)
theorem in_iD (i : Int) (xs : List Int) : dIn (.int i) (.lst (iD xs)) = some (.bl (decide (i ∈ xs))) := by
  have h1 : (iD xs).all D.scal = true := by
    rw [List.all_eq_true]
    intro x hx
    obtain ⟨s, _, rfl⟩ := List.mem_map.mp hx
    rfl
  have h2 : dInB (.int i) (.lst (iD xs)) = some (decide (i ∈ xs)) := by
    show (if (D.int i).scal = true ∧ (iD xs).all D.scal = true then some (((iD xs).map D.toV).any fun v => eqV v (D.int i).toV) else none) = _
    rw [if_pos ⟨rfl, h1⟩, List.map_map, List.any_map]
    congr 1
    rw [Bool.eq_iff_iff, List.any_eq_true]
    simp only [Function.comp, decide_eq_true_eq, eqV_int]
    constructor
    · rintro ⟨s, hs, h⟩
      rw [← h]; exact hs
    · intro h
      exact ⟨i, h, rfl⟩
  unfold dIn
  rw [h2]
  rfl
/-! the letters a to z -/
def ltr (k : Nat) : Lt := Fin.ofNat 128 (97 + k)
def every26 : List Lt := (List.range 26).map ltr
theorem every_eq : D.str "abcdefghijklmnopqrstuvwxyz" = alD every26 := rfl
theorem every_at {k : Nat} (h : k < 26) : every26[k]? = some (ltr k) := by
  unfold every26
  rw [List.getElem?_map, List.getElem?_range h]
  rfl
theorem ltr_val {k : Nat} (h : k < 26) : (ltr k).val = 97 + k := by
  show (97 + k) % 128 = 97 + k
  omega
/-- an alphabet: letters a to z, ascending -/
def Alph (al : List Lt) : Prop := ∃ sub : List Nat, sub.Pairwise (· < ·) ∧ (∀ k ∈ sub, k < 26) ∧ sub ≠ [] ∧ al = sub.map ltr
theorem sub_lenF : ∀ (sub : List Nat) (lo : Nat), sub.Pairwise (· < ·) → (∀ k ∈ sub, lo ≤ k ∧ k < 26) → sub.length ≤ 26 - lo
  | [], _, _, _ => by simp
  | k :: sub, lo, h, h2 => by
    obtain ⟨h3, h4⟩ := List.pairwise_cons.mp h
    have h5 := h2 k (List.mem_cons_self ..)
    have := sub_lenF sub (k + 1) h4 fun j hj => ⟨h3 j hj, (h2 j (List.mem_cons_of_mem _ hj)).2⟩
    simp only [List.length_cons]
    omega
theorem sub_len {sub : List Nat} (h : sub.Pairwise (· < ·)) (h2 : ∀ k ∈ sub, k < 26) : sub.length ≤ 26 := sub_lenF sub 0 h fun k hk => ⟨Nat.zero_le _, h2 k hk⟩
theorem Alph.len {al : List Lt} (h : Alph al) : 0 < al.length ∧ al.length ≤ 26 := by
  obtain ⟨sub, h1, h2, h3, rfl⟩ := h
  rw [List.length_map]
  exact ⟨List.length_pos_iff.mpr h3, sub_len h1 h2⟩
end VL
end

section
/-! VZ: split, index, f-strings, int(text), isinstance of an own class, == by an own method, a text backwards. -/
namespace VL
open PySem PySem.Spec PyProof.Rows L2
section
variable {K : PySem.W.Frag} {W0 W : Wd} {E : XK} {b b' b1 b2 : Bool}
/-! ### x.split(y) -/
def rSplitU : V → List V → Hp → VK → Prop := fun x xs H Q => ∃ a c, x = .str a ∧ xs = [.str c] ∧ (c.length == 0) = false ∧ a.length + 2 ≤ sizeLine ∧ rNewStrs (Txt.split a c) H Q
theorem pe_splitU {X : Cx} {o e : Expr} {to te : TE} {apos pos : Pos} (ho : PE X o to) (he : PE X e te) (hs : starEach [e] X.env = [(false, eval e X.env)] := by rfl) (hbase : attributeBase o "split" X.env (eval o X.env) = eval o X.env := by rfl) (hline : (apos.endLine == pos.line) = true := by rfl) :
    PE X (.Call (.Attribute o "split" apos) [e] [] pos) (tM1 rSplitU to te) := pe_split ho he hs hbase hline
def gSplit (ga gb : GE) : GA := fun c => match ga c with
  | some (.str x) => match gb c with
    | some (.str y) => if (y.length == 0) = false ∧ x.length + 2 ≤ sizeLine then some ((Txt.split x y).map D.str) else none
    | _ => none
  | _ => none
theorem vn_split {to te : TE} {ga gb : GE} (h1 : VT K W0 b1 to ga) (h2 : VT K W0 b2 te gb) : VN K W0 (tM1 rSplitU to te) (gSplit ga gb) := by
  intro W σ c ds Q k u s e q
  unfold gSplit at e
  split at e
  · rename_i x ex
    split at e
    · rename_i y ey
      split at e
      · rename_i hz
        cases e
        refine h1 W σ c _ _ k u s ex fun W1 v1 k1 g1 d1 => ?_
        cases d1
        refine ⟨⟨x, rfl⟩, h2 W1 σ c _ _ k1 (u.gr g1) (s.gr g1) ey fun W2 v2 k2 g2 d2 => ?_⟩
        cases d2
        exact ⟨x, y, rfl, rfl, hz.1, hz.2, fun p hp => q W2 p _ k2 (g1.trans g2) hp (DenL.of_strs _)⟩
      · cases e
    · cases e
  · cases e
/-! ### x.index(y), flat -/
theorem pe_idxK {X : Cx} {o e : Expr} {to : TE} {t : TA} {apos cpos : Pos} (hK : X.K = K) (ho : PE X o to) (ha : PA X [e] t)
    (hbase : attributeBase o "index" X.env (eval o X.env) = eval o X.env := by rfl)
    (hfew : ((backTo cpos (starEach [e] X.env)).all (fun x => !x.1) && (backToKw cpos (keywordEach [] X.env)).all (fun x => x.1.isSome) && decide ([e].length + ([] : List Keyword).length + (if ([] : List Keyword).isEmpty then 0 else 1) < 30)) = true := by rfl)
    (hline : (apos.endLine == cpos.line) = true := by rfl) (hs : starEach [e] X.env = (false, eval e X.env) :: starEach [] X.env := by rfl) : PE X (.Call (.Attribute o "index" apos) [e] [] cpos) (tBM K "list" (rIndex K) to t) := by
  subst hK
  exact pe_bm PySem.F.plainAttrs_list PySem.F.slot_list_index PySem.F.type_list_index mt_index ho ha hbase hfew hline hs
def dIdx (x z : D) : Option D := match x with
  | .lst ds => if z.scal = true ∧ ds.all D.scal = true then ((ds.map D.toV).findIdx? fun y => eqV y z.toV).map fun (j : Nat) => D.int (j : Nat) else none
  | _ => none
theorem vt_idx {to te : TE} {ga gb : GE} (h1 : VT K W0 b1 to ga) (h2 : VT K W0 b2 te gb) : VT K W0 b (tBM K "list" (rIndex K) to (tCons te tNil)) (g2 dIdx ga gb) := by
  intro W σ c d Q k u s e q
  obtain ⟨x, z, ex, ez, ef⟩ := g2_some e
  refine h1 W σ c x _ k u s ex fun W1 v1 k1 g1 d1 => ?_
  unfold dIdx at ef
  split at ef
  · split at ef
    · rename_i ds hz
      simp only [Option.map_eq_some_iff] at ef
      obtain ⟨j, hj, rfl⟩ := ef
      cases d1 with
      | @lst a xs _ e1 e2 =>
        obtain ⟨hlt, hp, hno⟩ := List.findIdx?_eq_some_iff_getElem.mp hj
        refine ⟨.inl ⟨rfl, xs, SqL.of ((k1.atH b1) _ _ e1)⟩, h2 W1 σ c z _ k1 (u.gr g1) (s.gr g1) ez fun W2 v2 k2 g2 d2 => ?_⟩
        rw [den_scal d2 hz.1]
        have hx := denL_scal e2 hz.2
        subst hx
        refine ⟨a, _, z.toV, j, _, rfl, rfl, SqL.of (((k1.atH b1).trans g2.h) _ _ e1), flat_toV z, flat_all ds, List.getElem?_eq_getElem hlt, hp, fun m z' hm hz' => ?_, q W2 _ k2 (g1.trans g2) (.int _)⟩
        obtain ⟨hm2, rfl⟩ := List.getElem?_eq_some_iff.mp hz'
        have := hno m hm
        simpa using this
    · cases ef
  · cases ef
/-! ### f-strings -/
def gFmt (g : GE) : GE := fun c => match g c with
  | some (.str y) => if y.length ≤ sizeLine then some (.str y) else none
  | some (.int i) => if i.natAbs.log2 < 1920 then some (.str (toString i)) else none
  | _ => none
theorem vt_fmt {te : TE} {g : GE} (h : VT K W0 b' te g) : VT K W0 b (tFmt te) (gFmt g) := by
  intro W σ c d Q k u s e q
  unfold gFmt at e
  split at e
  · rename_i y hy
    split at e
    · rename_i hz
      cases e
      refine h W σ c _ _ k u s hy fun W1 v1 k1 g1 d1 => ?_
      cases d1
      exact .inl ⟨y, rfl, hz, q W1 _ k1 g1 (.str _)⟩
    · cases e
  · rename_i i hi
    split at e
    · rename_i hz
      cases e
      refine h W σ c _ _ k u s hi fun W1 v1 k1 g1 d1 => ?_
      cases d1
      exact .inr ⟨i, rfl, hz, q W1 _ k1 g1 (.str _)⟩
    · cases e
  · cases e
inductive VJ (K : PySem.W.Frag) (W0 : Wd) : List TE → List GE → Prop
  | nil : VJ K W0 [] []
  | cons {t : TE} {g : GE} {ts : List TE} {gs : List GE} (h : VT K W0 true t g) (r : VJ K W0 ts gs) : VJ K W0 (t :: ts) (g :: gs)
def gJs : List GE → Str → Env → Option Str
  | [], acc, _ => some acc
  | g :: gs, acc, c => match g c with
    | some (.str y) => if (acc ++ y).length ≤ sizeLine then gJs gs (acc ++ y) c else none
    | _ => none
theorem vj_run {ts : List TE} {gs : List GE} (h : VJ K W0 ts gs) : ∀ (acc : Str) (W : Wd) (σ : L2.St) (c : Env) (z : Str) (Q : Str → Hp → Prop), WOk W → Up W0 W → SD K W0 W σ c → gJs gs acc c = some z → (∀ W', WOk W' → Gr W W' → Q z W'.H) → tJs ts acc σ W.H Q := by
  induction h with
  | nil =>
    intro acc W σ c z Q k u s e q
    cases e
    exact q W k (Gr.refl W)
  | @cons t g ts gs h r ih =>
    intro acc W σ c z Q k u s e q
    unfold gJs at e
    split at e
    · rename_i y hy
      split at e
      · rename_i hz
        refine h W σ c _ _ k u s hy fun W1 v1 k1 g1 d1 => ?_
        cases d1
        exact ⟨y, rfl, hz, ih _ W1 σ c z Q k1 (u.gr g1) (s.gr g1) e fun W' k' g' => q W' k' (g1.trans g')⟩
      · cases e
    · cases e
def gJoin (gs : List GE) : GE := fun c => (gJs gs Str.empty c).map D.str
theorem vt_joined {ts : List TE} {gs : List GE} (h : VJ K W0 ts gs) : VT K W0 b (fun σ H Q => tJs ts Str.empty σ H fun out H1 => Q (.str out) H1) (gJoin gs) := by
  intro W σ c d Q k u s e q
  unfold gJoin at e
  simp only [Option.map_eq_some_iff] at e
  obtain ⟨z, hz, rfl⟩ := e
  exact vj_run h Str.empty W σ c z _ k u s hz fun W' k' g' => q W' _ k' g' (.str _)
/-! ### int(text) -/
def rIntT : List V → Hp → VK → Prop := fun xs H Q => ∃ a n, xs = [.str a] ∧ PySem.intText? a = some n ∧ a.length ≤ 640 ∧ Q (.int n) H
theorem call_intT {X : Cx} : CallR X (.type "int") rIntT := call_int_str
def fIntT : List D → Option D
  | [.str a] => if a.length ≤ 640 then (PySem.intText? a).map D.int else none
  | _ => none
theorem rcs_intT : RCS K rIntT fIntT := by
  intro W xs ds z Q k hd hf q
  unfold fIntT at hf
  split at hf
  · split at hf
    · rename_i hz
      simp only [Option.map_eq_some_iff] at hf
      obtain ⟨n, hn, rfl⟩ := hf
      cases hd with
      | cons h1 h2 => cases h1; cases h2; exact ⟨_, n, rfl, hn, hz, q _ fun H => .int _⟩
    · cases hf
  · cases hf
/-! ### isinstance of an own class -/
def rIsC (C : Addr) : List V → Hp → VK → Prop := fun xs H Q => ∃ a dx fs, xs = [.ref a, .ref C] ∧ H a = some (.ins C dx fs) ∧ Q (.bl true) H
theorem call_isCU {X : Cx} {C : Addr} (c : C8.InsC X.K C) : CallR X (.builtin "isinstance") (rIsC C) := C8.call_isC c
def gIsC (C : Addr) (g : GE) : GE := fun c => match g c with
  | some (.ins C' _ _) => if C' = C then some (.bl true) else none
  | _ => none
theorem vt_isC {C : Addr} {te : TE} {g : GE} (h : VT K W0 b' te g) : VT K W0 b (tCB (rIsC C) (tCons te (tCons (tC (.ref C)) tNil))) (gIsC C g) := by
  intro W σ c d Q k u s e q
  unfold gIsC at e
  split at e
  · rename_i C' ns ds hd
    split at e
    · rename_i hC
      subst hC
      cases e
      refine h W σ c _ _ k u s hd fun W1 v1 k1 g1 d1 => ?_
      cases d1 with
      | ins h1 h2 h3 => exact ⟨_, _, _, rfl, (k1.atH b') _ _ h1, q W1 _ k1 g1 (.bl true)⟩
    · cases e
  · cases e
/-! ### two data are the same -/
mutual
def D.same : D → D → Bool
  | .non, .non => true
  | .bl x, .bl y => decide (x = y)
  | .int x, .int y => decide (x = y)
  | .str x, .str y => decide (x = y)
  | .tup x, .tup y => D.sameL x y
  | .lst x, .lst y => D.sameL x y
  | .scr x, .scr y => D.sameL x y
  | .ins C ns x, .ins C' ns' y => decide (C = C') && (decide (ns = ns') && D.sameL x y)
  | _, _ => false
def D.sameL : List D → List D → Bool
  | [], [] => true
  | x :: xs, y :: ys => D.same x y && D.sameL xs ys
  | _, _ => false
end
mutual
theorem D.same_eq : ∀ (x y : D), D.same x y = true → x = y
  | .non, y, h => by cases y <;> simp [D.same] at h; rfl
  | .bl a, y, h => by cases y <;> simp [D.same] at h; rw [h]
  | .int a, y, h => by cases y <;> simp [D.same] at h; rw [h]
  | .str a, y, h => by cases y <;> simp [D.same] at h; rw [h]
  | .tup a, y, h => by cases y <;> simp only [D.same, Bool.false_eq_true] at h; rw [D.sameL_eq a _ h]
  | .lst a, y, h => by cases y <;> simp only [D.same, Bool.false_eq_true] at h; rw [D.sameL_eq a _ h]
  | .scr a, y, h => by cases y <;> simp only [D.same, Bool.false_eq_true] at h; rw [D.sameL_eq a _ h]
  | .ins C ns a, y, h => by
    cases y <;> simp only [D.same, Bool.false_eq_true, Bool.and_eq_true, decide_eq_true_eq] at h
    rw [h.1, h.2.1, D.sameL_eq a _ h.2.2]
theorem D.sameL_eq : ∀ (x y : List D), D.sameL x y = true → x = y
  | [], y, h => by cases y <;> simp [D.sameL] at h; rfl
  | a :: x, y, h => by
    cases y with
    | nil => simp [D.sameL] at h
    | cons c y =>
      simp only [D.sameL, Bool.and_eq_true] at h
      rw [D.same_eq a c h.1, D.sameL_eq x y h.2]
end
mutual
theorem D.same_refl : ∀ x : D, D.same x x = true
  | .non => rfl
  | .bl a => by simp [D.same]
  | .int a => by simp [D.same]
  | .str a => by simp [D.same]
  | .tup a => by simp only [D.same]; exact D.sameL_refl a
  | .lst a => by simp only [D.same]; exact D.sameL_refl a
  | .scr a => by simp only [D.same]; exact D.sameL_refl a
  | .ins C ns a => by simp only [D.same]; rw [D.sameL_refl a]; simp
theorem D.sameL_refl : ∀ x : List D, D.sameL x x = true
  | [] => rfl
  | a :: x => by simp only [D.sameL]; rw [D.same_refl a, D.sameL_refl x]; rfl
end
/-! ### == of two instances, by the class's own method, where they are the same -/
def REq (K : PySem.W.Frag) (m : List D → Option Res) : Addr → Addr → Hp → Prop := fun x y H => ∃ (F : Hp) (d : D), Same F H ∧ Den K F (.ref x) d ∧ Den K F (.ref y) d ∧ m [d, d] = some (.val (.bl true))
theorem spEq_of {m : List D → Option Res} {vs : List V} {H : Hp} {Q : VK} {E : XK} (h : L2.spEq (REq K m) vs H Q E) : spP K m vs H Q E := by
  obtain ⟨x, y, rfl, ⟨F, d, hF, h1, h2, hm⟩, q⟩ := h
  refine ⟨F, [d, d], .val (.bl true), hF, .cons h1 (.cons h2 .nil), hm, fun H' F' v s1 s2 s3 s4 hd => ?_⟩
  cases hd
  exact q H' s1
structure EqX (P : Program) (w : World) (K : PySem.W.Frag) (mg : Str → Option Value) (base : Heap) (n : Nat) (C : Addr) (m : List D → Option Res) : Prop where
  ex : ∃ (f : Addr) (fd : FuncData) (ps : List Str), FnOk P w K mg base CX0 n f fd ps (L2.spEq (REq K m)) ∧ PySem.W.findIn K (.ref C) "__eq__" = some (some (.ref f)) ∧ PySem.W.isFn K (.ref f) = true ∧ Binds K fd ps []
theorem op_eqO {X : Cx} {n j : Nat} {C : Addr} {m : List D → Option Res} (c : EqX X.prog X.w X.K X.mg X.base n C m) (hr : Room j X.A) (hk : n ≤ j) : OpR X (compareOp .Eq) (rEqG (DIns C (REq X.K m))) := by
  obtain ⟨f, fd, ps, F, hs, hf, hb⟩ := c.ex
  exact op_eqG (rcG_ins (E := fun _ _ _ => False) F hs hf hb pass0) (hr.mono hk)
def gEqO (C : Addr) (m : List D → Option Res) (ga gb : GE) : GE := fun c => match ga c with
  | some (.ins C1 ns ds) => match gb c with
    | some e => if C1 = C ∧ D.same (.ins C1 ns ds) e = true then match m [e, e] with
        | some (.val (.bl true)) => some (.bl true)
        | _ => none
      else none
    | none => none
  | _ => none
theorem vt_eqO {C : Addr} {m : List D → Option Res} {ta tb : TE} {ga gb : GE} (h1 : VT K W0 b1 ta ga) (h2 : VT K W0 b2 tb gb) : VT K W0 b (tOp (rEqG (DIns C (REq K m))) ta tb) (gEqO C m ga gb) := by
  intro W σ c d Q k u s e q
  unfold gEqO at e
  split at e
  · rename_i C1 ns ds ex
    split at e
    · rename_i y ey
      split at e
      · rename_i hh
        split at e
        · rename_i hm
          cases e
          obtain ⟨hC, hs⟩ := hh
          have hy := D.same_eq _ _ hs
          subst hy hC
          refine h1 W σ c _ _ k u s ex fun W1 v1 k1 g1 d1 => ?_
          refine h2 W1 σ c _ _ k1 (u.gr g1) (s.gr g1) ey fun W2 v2 k2 g2 d2 => ?_
          have e1 := d1.up ((g2.at b1).trans (k2.atG b1))
          have e2 := d2.up (k2.atG b2)
          cases e1 with
          | @ins a1 _ dx1 fs1 _ _ i1 i2 i3 =>
            cases e2 with
            | @ins a2 _ dx2 fs2 _ _ j1 j2 j3 =>
              refine ⟨⟨a1, a2, dx1, dx2, fs1, fs2, rfl, rfl, k2.gh _ _ i1, k2.gh _ _ j1, W2.G, .ins C1 ns ds, k2.gh, .ins i1 i2 i3, .ins j1 j2 j3, hm⟩, fun H' hx => ?_⟩
              refine q ⟨H', W2.G, W2.F⟩ _ ⟨k2.fg, k2.gh.trans hx, k2.gt⟩ ((g1.trans g2).trans ⟨hx, Same.refl _, Same.refl _, fun _ _ _ => rfl, fun _ _ _ => rfl⟩) (.bl true)
        · cases e
      · cases e
    · cases e
  · cases e
/-! ### a text backwards -/
def revS (z : Str) : Str := ⟨z.cps.toList.reverse.toArray⟩
def tRevS (te : TE) : TE := fun σ H Q => te σ H fun x H1 => ∃ z : Str, x = .str z ∧ z.length ≤ sizeLine ∧ Q (.str (revS z)) H1
theorem picked_rev (z : Str) (t : Tok) : ((slicePicked z none none (some (-1, t))).filterMap (z.cps[·]?)).toArray = z.cps.toList.reverse.toArray := by
  have e : slicePicked z none none (some (-1, t)) = sliceRange ((z.length : Int) - 1) (-1) (-1) := rfl
  have h := PySem.W.krv_all z.cps
  rw [e, PySem.W.krv_sliceRange, PySem.W.krv_range, List.filterMap_reverse]
  show ((List.range z.cps.size).filterMap (z.cps[·]?)).reverse.toArray = _
  rw [h]
theorem pe_revS {X : Cx} {e : Expr} {te : TE} {k : Nat} {p1 p2 p3 pos : Pos} (he : PE X e te) : PE X (.Subscript e (.Slice none none (some (.UnaryOp .USub (.Constant (.int 1) k p1) p2)) p3) pos) (tRevS te) := by
  refine ⟨fun pins s σ H Q I h => Subscript_ (thn (he.run pins s σ H _ I h) fun v s1 hv => ?_)⟩
  obtain ⟨x, H1, I1, r1, z, rfl, hz, q⟩ := hv
  obtain ⟨t, rfl⟩ := r1
  have hst : PO X (some (.UnaryOp .USub (.Constant (.int 1) k p1) p2)) (tPart (tUn (rU fun i => .int (-i)) (tC (.int 1)))) := po_some (pe_un un_neg pe_int)
  refine wpAny_Slice (thn (po_none.run pins s1 σ H1 (fun o G => o = none ∧ G = H1) I1 ⟨rfl, rfl⟩) fun vl s2 hl => ?_)
  obtain ⟨l, G2, I2, pl, rfl, rfl⟩ := hl
  refine thn (po_none.run pins s2 σ G2 (fun o G => o = none ∧ G = G2) I2 ⟨rfl, rfl⟩) fun vu s3 hu => ?_
  obtain ⟨u, G3, I3, pu, rfl, rfl⟩ := hu
  refine thn (hst.run pins s3 σ G3 (fun o G => o = some (-1) ∧ G = G3) I3 ⟨1, rfl, -1, rfl, rfl, rfl⟩) fun vs s4 hs => ?_
  obtain ⟨o, G4, I4, ps, rfl, rfl⟩ := hs
  cases pl
  cases pu
  obtain ⟨st, rfl, hst2⟩ := IsPart.raw ps
  cases st with
  | none => cases hst2
  | some st =>
    obtain ⟨i, ti⟩ := st
    cases hst2
    have I5 : Inv X pins σ G4 { s4 with heap := s4.heap.push { cls := .type "slice", data := .fields #[.none, .none, partValue (some (-1, ti))] } } := I4.kept (t' := s4.toks) fun b ob q => Heap.get?_push_of_some _ q
    refine tail_any (T := "str") (ops := [.str z t, .ref s4.heap.objs.size]) (typeIs_str _ _ _) F.slot_str_getitem.lookup ?_ (by with_unfolding_all rfl)
    refine wpAny_getItem_str_slice (l := none) (u := none) (st := some (-1, ti)) ⟨_, Heap.get?_push_size _ rfl, rfl, rfl⟩ rfl ?_
    show Made.post (if ((-1 : Int) == 1 && (slicePicked z none none (some (-1, ti))).length == z.length) = true then Made.val (.str z t) else Made.str ⟨((slicePicked z none none (some (-1, ti))).filterMap (z.cps[·]?)).toArray⟩) (EP X pins σ Q) _
    rw [if_neg (by simp), picked_rev]
    refine ⟨?_, .str (revS z), G4, I5.tok _, ⟨_, rfl⟩, q⟩
    show z.cps.toList.reverse.toArray.size ≤ _
    have : z.cps.size ≤ sizeLine := hz
    simpa using this
def gRevS (g : GE) : GE := fun c => match g c with
  | some (.str z) => if z.length ≤ sizeLine then some (.str (revS z)) else none
  | _ => none
theorem vt_revS {te : TE} {g : GE} (h : VT K W0 b' te g) : VT K W0 b (tRevS te) (gRevS g) := by
  intro W σ c d Q k u s e q
  unfold gRevS at e
  split at e
  · rename_i z hd
    split at e
    · rename_i hz
      cases e
      refine h W σ c _ _ k u s hd fun W1 v1 k1 g1 d1 => ?_
      cases d1
      exact ⟨z, rfl, hz, q W1 _ k1 g1 (.str _)⟩
    · cases e
  · cases e
end
end VL
end

section
namespace K43
open PySem PySem.Spec PyProof.Rows L2 VL

def top (i : Nat) : Stmt := PySem.Challenge.pw_fourleashes_k43_grammar_notation.main.body.getD i (.Pass ⟨0, 0, 0, 0⟩)

/-- where the classes stand -/
structure Ad where
  C_Grammar : Addr
  C_BadLine : Addr
  C_BadAlphabet : Addr
  C_BadForm : Addr
  C_BadRow : Addr
  C_BadRule : Addr
  C_BadText : Addr
  C_BadVariables : Addr
  C_LeashError : Addr

abbrev s_is_alphabet : Stmt := top 12

abbrev N_is_alphabet : List Str := ["value", "index"]

abbrev s_check_alphabet : Stmt := top 13

abbrev N_check_alphabet : List Str := ["alphabet"]

abbrev s_is_whole : Stmt := top 11

abbrev N_is_whole : List Str := ["value"]

abbrev s_is_variable : Stmt := top 15

abbrev N_is_variable : List Str := ["symbol"]

abbrev s_is_symbol : Stmt := top 16

abbrev N_is_symbol : List Str := ["symbol", "alphabet", "variables"]

abbrev s_is_rule : Stmt := top 17

abbrev N_is_rule : List Str := ["left", "right", "alphabet", "variables", "symbol"]

abbrev s_Grammar_init : Stmt := inClass (top 18) 0

abbrev N_Grammar_init : List Str := ["self", "alphabet", "variables", "rules", "kept", "index", "rule", "left", "right"]

abbrev s_Grammar_eq : Stmt := inClass (top 18) 1

abbrev N_Grammar_eq : List Str := ["self", "other"]

abbrev s_read_number : Stmt := top 21

abbrev N_read_number : List Str := ["word", "digit"]

abbrev s_format_side : Stmt := top 23

abbrev N_format_side : List Str := ["symbols", "symbol"]

abbrev s_format_grammar : Stmt := top 24

abbrev N_format_grammar : List Str := ["grammar", "lines", "left", "right"]

abbrev s_read_side : Stmt := top 25

abbrev N_read_side : List Str := ["words", "symbols", "word", "number"]

abbrev s_read_rule : Stmt := top 26

abbrev N_read_rule : List Str := ["line", "words", "place", "left", "right"]

abbrev s_read_grammar_head : Stmt := top 27

abbrev N_read_grammar_head : List Str := ["line", "words", "variables"]

abbrev s_parse_grammar : Stmt := top 28

abbrev N_parse_grammar : List Str := ["text", "lines", "head", "alphabet", "variables", "rules", "index", "rule"]

abbrev s__law_whole : Stmt := top 30

abbrev N__law_whole : List Str := ["value"]

abbrev s__law_cell : Stmt := top 31

abbrev N__law_cell : List Str := ["script", "k", "seed", "cell"]

abbrev s__law_digits : Stmt := top 32

abbrev N__law_digits : List Str := ["cell", "sizes", "row", "rest", "size", "seed", "k", "twice"]

abbrev s__law_alphabet : Stmt := top 33

abbrev N__law_alphabet : List Str := ["cell", "row", "every", "chosen", "k"]

abbrev s__law_is_alphabet : Stmt := top 34

abbrev N__law_is_alphabet : List Str := ["string", "k"]

abbrev s__law_variable : Stmt := top 35

abbrev N__law_variable : List Str := ["digit", "variables"]

abbrev s__law_symbol : Stmt := top 36

abbrev N__law_symbol : List Str := ["digit", "alphabet", "variables"]

abbrev s__law_rule : Stmt := top 37

abbrev N__law_rule : List Str := ["cell", "alphabet", "variables", "row", "size", "left", "right", "digit"]

abbrev s__law_side : Stmt := top 38

abbrev N__law_side : List Str := ["symbols", "symbol"]

abbrev s__law_written : Stmt := top 39

abbrev N__law_written : List Str := ["alphabet", "variables", "rules", "lines", "rule"]

abbrev s__law_number : Stmt := top 40

abbrev N__law_number : List Str := ["word", "k"]

abbrev s__law_read_symbol : Stmt := top 41

abbrev N__law_read_symbol : List Str := ["word", "alphabet", "variables", "number"]

abbrev s__law_read_rule : Stmt := top 42

abbrev N__law_read_rule : List Str := ["line", "alphabet", "variables", "sides", "part", "symbols", "word", "symbol"]

abbrev s__law_read : Stmt := top 43

abbrev N__law_read : List Str := ["string", "lines", "words", "variables", "rules", "k", "rule"]

abbrev s__law_word : Stmt := top 44

abbrev N__law_word : List Str := ["digit", "alphabet", "variables", "low", "menu"]

abbrev s__law_changed_line : Stmt := top 45

abbrev N__law_changed_line : List Str := ["line", "which", "digit", "word", "words", "spot"]

abbrev s__law_changed : Stmt := top 46

abbrev N__law_changed : List Str := ["string", "row", "alphabet", "variables", "spot", "sign", "lines", "at", "word", "line"]

abbrev s__law_side_alike : Stmt := top 47

abbrev N__law_side_alike : List Str := ["told", "side", "k"]

abbrev s__law_kept : Stmt := top 48

abbrev N__law_kept : List Str := ["grammar", "alphabet", "variables", "rules", "k", "told"]

abbrev s__law_parsed : Stmt := top 49

abbrev N__law_parsed : List Str := ["string", "e", "others"]

abbrev s__law_formatted : Stmt := top 50

abbrev N__law_formatted : List Str := ["grammar", "string", "told"]

abbrev s__law_read_alike : Stmt := top 51

abbrev N__law_read_alike : List Str := ["string", "due", "told", "equal"]

abbrev s_law : Stmt := top 52

abbrev N_law : List Str := ["script", "alphabet", "row", "variables", "rules", "string", "grammar", "k", "change", "start", "side", "told", "item"]

def g_is_alphabet (A : Ad) : GS :=
 (gSeq (gIf (gNot (gB (gChain dLe dLe (gC (.int 1)) (gCall fLen (VL.gCons (gLook 0) VL.gNil)) (gC (.int 26))))) (gRet (gC (.bl false))) gNext)
 (gSeq (gFor (gRg1 (VL.gCons (gCall fLen (VL.gCons (gLook 0) VL.gNil)) VL.gNil)) (fName 1) (gSeq (gIf (gB (g2 dNotIn (g2 dIx (gLook 0) (gLook 1)) (gC (.str "abcdefghijklmnopqrstuvwxyz")))) (gRet (gC (.bl false))) gNext)
 (gIf (gAnd (gB (g2 dGt (gLook 1) (gC (.int 0)))) (gB (g2 dGe (g2 dIx (gLook 0) (g2 dSub (gLook 1) (gC (.int 1)))) (g2 dIx (gLook 0) (gLook 1))))) (gRet (gC (.bl false))) gNext)))
 (gRet (gC (.bl true)))))

def m_is_alphabet (A : Ad) : List D → Option Res := mOf 1 2 (g_is_alphabet A)

def g_check_alphabet (A : Ad) : GS :=
 (gIf (gNot (gTru (gFn (m_is_alphabet A) (VL.gCons (gLook 0) VL.gNil)))) gNever gNext)

def m_check_alphabet (A : Ad) : List D → Option Res := mOf 1 1 (g_check_alphabet A)

def g_is_whole (A : Ad) : GS :=
 (gRet (gBl (gAnd (gB (gIsi "int" (gLook 0))) (gB (gBl (gNot (gB (gIsi "bool" (gLook 0)))))))))

def m_is_whole (A : Ad) : List D → Option Res := mOf 1 1 (g_is_whole A)

def g_is_variable (A : Ad) : GS :=
 (gRet (gBl (gNot (gB (gIsi "str" (gLook 0))))))

def m_is_variable (A : Ad) : List D → Option Res := mOf 1 1 (g_is_variable A)

def g_is_symbol (A : Ad) : GS :=
 (gSeq (gIf (gTru (gIsi "str" (gLook 0))) (gRet (gBl (gAnd (gB (g2 dEq (gCall fLen (VL.gCons (gLook 0) VL.gNil)) (gC (.int 1)))) (gB (g2 dIn (gLook 0) (gLook 1)))))) gNext)
 (gRet (gBl (gAnd (gB (gFn (m_is_whole A) (VL.gCons (gLook 0) VL.gNil))) (gB (gChain dLe dLt (gC (.int 0)) (gLook 0) (gLook 2)))))))

def m_is_symbol (A : Ad) : List D → Option Res := mOf 3 3 (g_is_symbol A)

def g_is_rule (A : Ad) : GS :=
 (gSeq (gFor (gIt (g2 dAdd (gVar 0) (gVar 1))) (fName 4) (gIf (gNot (gTru (gFn (m_is_symbol A) (VL.gCons (gLook 4) (VL.gCons (gLook 2) (VL.gCons (gLook 3) VL.gNil)))))) (gRet (gC (.bl false))) gNext))
 (gSeq (gFor (gIt (gVar 0)) (fName 4) (gIf (gTru (gFn (m_is_variable A) (VL.gCons (gLook 4) VL.gNil))) (gRet (gC (.bl true))) gNext))
 (gRet (gC (.bl false)))))

def m_is_rule (A : Ad) : List D → Option Res := mOf 4 5 (g_is_rule A)

def g_Grammar_init (A : Ad) : GS :=
 (gSeq (gDrop (gFn (m_check_alphabet A) (VL.gCons (gLook 1) VL.gNil)))
 (gSeq (gIf (gB (g2 dLt (gLook 2) (gC (.int 1)))) gNever gNext)
 (gSeq (gAsgN 4 (gLen VL.gNil))
 (gSeq (gFor (gEnum (gVar 3)) (fTupU 2 (fCons (fName 5) (fCons (fName 6) fNil))) (gSeq (gPar 7 8 (VL.gCons (gCall fTuple (VL.gCons (g2 dIx (gLook 6) (gC (.int 0))) VL.gNil)) (VL.gCons (gCall fTuple (VL.gCons (g2 dIx (gLook 6) (gC (.int 1))) VL.gNil)) VL.gNil)))
 (gSeq (gIf (gNot (gTru (gFn (m_is_rule A) (VL.gCons (gLook 7) (VL.gCons (gLook 8) (VL.gCons (gLook 1) (VL.gCons (gLook 2) VL.gNil))))))) gNever gNext)
 (gAppend 4 (VL.gTup (VL.gCons (gVar 7) (VL.gCons (gVar 8) VL.gNil)))))))
 (gSeq (gFldS A.C_Grammar 0 "alphabet" (gVar 1))
 (gSeq (gFldS A.C_Grammar 0 "variables" (gVar 2))
 (gFrz 4 (gFldS A.C_Grammar 0 "rules" (gCall fTuple (VL.gCons (gVar 4) VL.gNil))))))))))

def i_Grammar (A : Ad) : List D → Option (List Str × List D) := iOf A.C_Grammar 3 9 (g_Grammar_init A)

def g_Grammar_eq (A : Ad) : GS :=
 (gRet (gBl (gAnd (gB (gIsC A.C_Grammar (gLook 1))) (gB (gBl (gAnd (gB (g2 dEq (gFld A.C_Grammar "alphabet" (gLook 0)) (gFld A.C_Grammar "alphabet" (gLook 1)))) (gB (gBl (gAnd (gB (g2 dEq (gFld A.C_Grammar "variables" (gLook 0)) (gFld A.C_Grammar "variables" (gLook 1)))) (gB (g2 dEq (gFld A.C_Grammar "rules" (gLook 0)) (gFld A.C_Grammar "rules" (gLook 1)))))))))))))

def m_Grammar_eq (A : Ad) : List D → Option Res := mOf 2 2 (g_Grammar_eq A)

def g_read_number (A : Ad) : GS :=
 (gSeq (gIf (gOr (gNot (gB (gChain dLe dLe (gC (.int 1)) (gCall fLen (VL.gCons (gLook 0) VL.gNil)) (gC (.int 9))))) (gAnd (gB (g2 dEq (g2 dIx (gLook 0) (gC (.int 0))) (gC (.str "0")))) (gB (g2 dGt (gCall fLen (VL.gCons (gLook 0) VL.gNil)) (gC (.int 1)))))) (gRet (gC .non)) gNext)
 (gSeq (gFor (gIt (gVar 0)) (fName 1) (gIf (gB (g2 dNotIn (gLook 1) (gC (.str "0123456789")))) (gRet (gC .non)) gNext))
 (gRet (gCall fIntT (VL.gCons (gLook 0) VL.gNil)))))

def m_read_number (A : Ad) : List D → Option Res := mOf 1 2 (g_read_number A)

def g_format_side (A : Ad) : GS :=
 (gSeq (gIf (gB (g2 dEq (gCall fLen (VL.gCons (gLook 0) VL.gNil)) (gC (.int 0)))) (gRet (gC (.str "."))) gNext)
 (gRet (g2 dJoin (gC (.str " ")) (gL (gLc (gIt (gVar 0)) (fName 1) gYes (gCall fStr (VL.gCons (gLook 1) VL.gNil)) [1])))))

def m_format_side (A : Ad) : List D → Option Res := mOf 1 2 (g_format_side A)

def g_format_grammar (A : Ad) : GS :=
 (gSeq (gAsgN 1 (gLen (VL.gCons (gJoin [(gC (.str "grammar ")), (gFmt (gFld A.C_Grammar "alphabet" (gLook 0))), (gC (.str " : ")), (gFmt (gFld A.C_Grammar "variables" (gLook 0)))]) VL.gNil)))
 (gSeq (gFor (gIt (gFld A.C_Grammar "rules" (gVar 0))) (fTupU 2 (fCons (fName 2) (fCons (fName 3) fNil))) (gAppend 1 (g2 dAdd (g2 dAdd (gFn (m_format_side A) (VL.gCons (gVar 2) VL.gNil)) (gC (.str " -> "))) (gFn (m_format_side A) (VL.gCons (gVar 3) VL.gNil)))))
 (gRet (g2 dJoin (gC (.str "\n")) (gLook 1)))))

def m_format_grammar (A : Ad) : List D → Option Res := mOf 1 4 (g_format_grammar A)

def g_read_side (A : Ad) : GS :=
 (gSeq (gAsgN 1 (gLen VL.gNil))
 (gSeq (gFor (gIt (gVar 0)) (fName 2) (gIf (gAnd (gB (g2 dEq (gCall fLen (VL.gCons (gLook 2) VL.gNil)) (gC (.int 1)))) (gB (g2 dIn (gLook 2) (gC (.str "abcdefghijklmnopqrstuvwxyz"))))) (gAppend 1 (gVar 2)) (gSeq (gAsg (gFn (m_read_number A) (VL.gCons (gVar 2) VL.gNil)) (fName 3))
 (gSeq (gIf (gB (g2 dIs (gLook 3) (gC .non))) (gRet (gC .non)) gNext)
 (gAppend 1 (gVar 3))))))
 (gRet (gCall fTuple (VL.gCons (gVar 1) VL.gNil)))))

def m_read_side (A : Ad) : List D → Option Res := mOf 1 4 (g_read_side A)

def g_read_rule (A : Ad) : GS :=
 (gSeq (gAsg (gL (gSplit (gLook 0) (gC (.str " ")))) (fName 1))
 (gSeq (gIf (gB (g2 dNe (g2 dCnt (gLook 1) (gC (.str "->"))) (gC (.int 1)))) (gRet (gC .non)) gNext)
 (gSeq (gAsg (g2 dIdx (gLook 1) (gC (.str "->"))) (fName 2))
 (gSeq (gAsg (gFn (m_read_side A) (VL.gCons (gCut (gVar 1) (fun _ => some none) (gPart (gLook 2))) VL.gNil)) (fName 3))
 (gSeq (gAsg (gIfE (gB (g2 dEq (gCut (gLook 1) (gPart (g2 dAdd (gLook 2) (gC (.int 1)))) (fun _ => some none)) (gL (gLen (VL.gCons (gC (.str ".")) VL.gNil))))) (VL.gTup VL.gNil) (gFn (m_read_side A) (VL.gCons (gCut (gVar 1) (gPart (g2 dAdd (gLook 2) (gC (.int 1)))) (fun _ => some none)) VL.gNil))) (fName 4))
 (gSeq (gIf (gOr (gB (g2 dIs (gLook 3) (gC .non))) (gOr (gB (g2 dIs (gLook 4) (gC .non))) (gAnd (gB (g2 dEq (gLook 4) (VL.gTup VL.gNil))) (gB (g2 dNe (gCut (gLook 1) (gPart (g2 dAdd (gLook 2) (gC (.int 1)))) (fun _ => some none)) (gL (gLen (VL.gCons (gC (.str ".")) VL.gNil)))))))) (gRet (gC .non)) gNext)
 (gRet (VL.gTup (VL.gCons (gVar 3) (VL.gCons (gVar 4) VL.gNil))))))))))

def m_read_rule (A : Ad) : List D → Option Res := mOf 1 5 (g_read_rule A)

def g_read_grammar_head (A : Ad) : GS :=
 (gSeq (gAsg (gL (gSplit (gLook 0) (gC (.str " ")))) (fName 1))
 (gSeq (gIf (gOr (gB (g2 dNe (gCall fLen (VL.gCons (gLook 1) VL.gNil)) (gC (.int 4)))) (gOr (gB (g2 dNe (g2 dIx (gLook 1) (gC (.int 0))) (gC (.str "grammar")))) (gOr (gB (g2 dNe (g2 dIx (gLook 1) (gC (.int 2))) (gC (.str ":")))) (gNot (gTru (gFn (m_is_alphabet A) (VL.gCons (g2 dIx (gLook 1) (gC (.int 1))) VL.gNil))))))) (gRet (gC .non)) gNext)
 (gSeq (gAsg (gFn (m_read_number A) (VL.gCons (g2 dIx (gLook 1) (gC (.int 3))) VL.gNil)) (fName 2))
 (gSeq (gIf (gOr (gB (g2 dIs (gLook 2) (gC .non))) (gB (g2 dLt (gLook 2) (gC (.int 1))))) (gRet (gC .non)) gNext)
 (gRet (VL.gTup (VL.gCons (g2 dIx (gLook 1) (gC (.int 1))) (VL.gCons (gVar 2) VL.gNil))))))))

def m_read_grammar_head (A : Ad) : List D → Option Res := mOf 1 3 (g_read_grammar_head A)

def g_parse_grammar (A : Ad) : GS :=
 (gSeq (gAsg (gL (gSplit (gLook 0) (gC (.str "\n")))) (fName 1))
 (gSeq (gAsg (gFn (m_read_grammar_head A) (VL.gCons (g2 dIx (gLook 1) (gC (.int 0))) VL.gNil)) (fName 2))
 (gSeq (gIf (gB (g2 dIs (gLook 2) (gC .non))) (gRaise1 A.C_BadLine "index" (VL.gCons (gC (.int 0)) VL.gNil)) gNext)
 (gSeq (gAsg (gVar 2) (fTupU 2 (fCons (fName 3) (fCons (fName 4) fNil))))
 (gSeq (gAsgN 5 (gLen VL.gNil))
 (gSeq (gFor (gRg2 (VL.gCons (gC (.int 1)) (VL.gCons (gCall fLen (VL.gCons (gLook 1) VL.gNil)) VL.gNil))) (fName 6) (gSeq (gAsg (gFn (m_read_rule A) (VL.gCons (g2 dIx (gLook 1) (gLook 6)) VL.gNil)) (fName 7))
 (gSeq (gIf (gOr (gB (g2 dIs (gLook 7) (gC .non))) (gNot (gTru (gFn (m_is_rule A) (VL.gCons (g2 dIx (gLook 7) (gC (.int 0))) (VL.gCons (g2 dIx (gLook 7) (gC (.int 1))) (VL.gCons (gLook 3) (VL.gCons (gLook 4) VL.gNil)))))))) (gRaise1 A.C_BadLine "index" (VL.gCons (gVar 6) VL.gNil)) gNext)
 (gAppend 5 (gVar 7)))))
 (gRet (gMake A.C_Grammar (i_Grammar A) (VL.gCons (gVar 3) (VL.gCons (gVar 4) (VL.gCons (gVar 5) VL.gNil)))))))))))

def m_parse_grammar (A : Ad) : List D → Option Res := mOf 1 8 (g_parse_grammar A)

def g__law_whole (A : Ad) : GS :=
 (gRet (gBl (gAnd (gB (gIsi "int" (gLook 0))) (gB (gBl (gNot (gB (gIsi "bool" (gLook 0)))))))))

def m__law_whole (A : Ad) : List D → Option Res := mOf 1 1 (g__law_whole A)

def g__law_cell (A : Ad) : GS :=
 (gSeq (gIf (gB (g2 dLt (gLook 1) (gCall fLen (VL.gCons (gLook 0) VL.gNil)))) (gRet (g2 dIx (gLook 0) (gLook 1))) gNext)
 (gSeq (gAsg (gC (.int 17)) (fName 2))
 (gSeq (gFor (gIt (gVar 0)) (fName 3) (gAsg (g2 dMod (gCall fInt (VL.gCons (g2 dAdd (g2 dMul (gLook 2) (gC (.int 31))) (g2 dMod (gCall fInt (VL.gCons (gLook 3) VL.gNil)) (gC (.int 1000003)))) VL.gNil)) (gC (.int 1000003))) (fName 2)))
 (gRet (g2 dMod (gCall fInt (VL.gCons (g2 dMul (g2 dMul (g2 dAdd (gLook 2) (gC (.int 7))) (g2 dAdd (gLook 1) (gC (.int 3)))) (gC (.int 69621))) VL.gNil)) (gC (.int 2147483647)))))))

def m__law_cell (A : Ad) : List D → Option Res := mOf 2 4 (g__law_cell A)

def g__law_digits (A : Ad) : GS :=
 (gSeq (gAsgN 2 (gLen VL.gNil))
 (gSeq (gAsg (gCall fInt (VL.gCons (gLook 0) VL.gNil)) (fName 3))
 (gSeq (gIf (gB (g2 dGe (gLook 3) (g2 dPow (gC (.int 10)) (gC (.int 18))))) (gSeq (gAsg (g2 dMod (gCall fInt (VL.gCons (g2 dSub (gLook 3) (g2 dPow (gC (.int 10)) (gC (.int 18)))) VL.gNil)) (g2 dPow (gC (.int 10)) (gC (.int 64)))) (fName 3))
 (gSeq (gFor (gIt (gVar 1)) (fName 4) (gSeq (gAppend 2 (g2 dMod (gCall fInt (VL.gCons (gLook 3) VL.gNil)) (gLook 4)))
 (gAsg (g2 dFdiv (gCall fInt (VL.gCons (gLook 3) VL.gNil)) (gLook 4)) (fName 3))))
 (gRet (gVar 2)))) gNext)
 (gSeq (gAsg (g2 dMod (gCall fInt (VL.gCons (gLook 3) VL.gNil)) (gC (.int 2147483629))) (fName 5))
 (gSeq (gFor (gRg1 (VL.gCons (gCall fLen (VL.gCons (gLook 1) VL.gNil)) VL.gNil)) (fName 6) (gSeq (gAsg (g2 dMod (gCall fInt (VL.gCons (g2 dAdd (g2 dAdd (g2 dMul (gLook 5) (gC (.int 48271))) (g2 dMul (gC (.int 974711)) (gLook 6))) (gC (.int 12345))) VL.gNil)) (gC (.int 2147483647))) (fName 5))
 (gSeq (gAsg (g2 dMod (gCall fInt (VL.gCons (g2 dMul (gLook 5) (g2 dAdd (g2 dFdiv (gLook 5) (gC (.int 65537))) (gC (.int 3)))) VL.gNil)) (gC (.int 2147483629))) (fName 7))
 (gAppend 2 (g2 dMod (gCall fInt (VL.gCons (g2 dFdiv (gLook 7) (gC (.int 19))) VL.gNil)) (g2 dIx (gLook 1) (gLook 6)))))))
 (gRet (gVar 2)))))))

def m__law_digits (A : Ad) : List D → Option Res := mOf 2 8 (g__law_digits A)

def g__law_alphabet (A : Ad) : GS :=
 (gSeq (gAsg (gFn (m__law_digits A) (VL.gCons (gVar 0) (VL.gCons (gL (gCat (gL (gLen (VL.gCons (gC (.int 6)) VL.gNil))) (g2 dMul (gL (gLen (VL.gCons (gC (.int 3)) VL.gNil))) (gC (.int 26))))) VL.gNil))) (fName 1))
 (gSeq (gAsg (gC (.str "abcdefghijklmnopqrstuvwxyz")) (fName 2))
 (gSeq (gAsg (gL (gLc (gRg1 (VL.gCons (gC (.int 26)) VL.gNil)) (fName 4) (gB (g2 dEq (g2 dIx (gLook 1) (g2 dAdd (gLook 4) (gC (.int 1)))) (gC (.int 0)))) (g2 dIx (gLook 2) (gLook 4)) [4])) (fName 3))
 (gSeq (gIf (gB (g2 dEq (g2 dIx (gLook 1) (gC (.int 0))) (gC (.int 5)))) (gRet (gVar 2)) gNext)
 (gSeq (gIf (gB (g2 dEq (gCall fLen (VL.gCons (gLook 3) VL.gNil)) (gC (.int 0)))) (gAsg (gL (gLen (VL.gCons (gC (.str "k")) VL.gNil))) (fName 3)) gNext)
 (gSeq (gIf (gB (g2 dEq (g2 dIx (gLook 1) (gC (.int 0))) (gC (.int 0)))) (gAsg (gCut (gVar 3) (fun _ => some none) (gPart (gC (.int 1)))) (fName 3)) gNext)
 (gSeq (gIf (gOr (gB (g2 dEq (g2 dIx (gLook 1) (gC (.int 0))) (gC (.int 1)))) (gB (g2 dEq (g2 dIx (gLook 1) (gC (.int 0))) (gC (.int 2))))) (gAsg (gCut (gVar 3) (fun _ => some none) (gPart (gC (.int 3)))) (fName 3)) gNext)
 (gRet (g2 dJoin (gC (.str "")) (gLook 3))))))))))

def m__law_alphabet (A : Ad) : List D → Option Res := mOf 1 5 (g__law_alphabet A)

def g__law_is_alphabet (A : Ad) : GS :=
 (gSeq (gIf (gOr (gB (g2 dLt (gCall fLen (VL.gCons (gLook 0) VL.gNil)) (gC (.int 1)))) (gB (g2 dGt (gCall fLen (VL.gCons (gLook 0) VL.gNil)) (gC (.int 26))))) (gRet (gC (.bl false))) gNext)
 (gSeq (gFor (gRg1 (VL.gCons (gCall fLen (VL.gCons (gLook 0) VL.gNil)) VL.gNil)) (fName 1) (gIf (gOr (gB (g2 dNotIn (g2 dIx (gLook 0) (gLook 1)) (gC (.str "abcdefghijklmnopqrstuvwxyz")))) (gAnd (gB (g2 dGt (gLook 1) (gC (.int 0)))) (gB (g2 dGe (g2 dIx (gLook 0) (g2 dSub (gLook 1) (gC (.int 1)))) (g2 dIx (gLook 0) (gLook 1)))))) (gRet (gC (.bl false))) gNext))
 (gRet (gC (.bl true)))))

def m__law_is_alphabet (A : Ad) : List D → Option Res := mOf 1 2 (g__law_is_alphabet A)

def g__law_variable (A : Ad) : GS :=
 (gSeq (gIf (gB (g2 dEq (g2 dMod (gCall fInt (VL.gCons (gLook 0) VL.gNil)) (gC (.int 2))) (gC (.int 0)))) (gRet (g2 dMod (gCall fInt (VL.gCons (g2 dFdiv (gLook 0) (gC (.int 2))) VL.gNil)) (gLook 1))) gNext)
 (gRet (g2 dSub (g2 dSub (gLook 1) (gC (.int 1))) (g2 dMod (gCall fInt (VL.gCons (g2 dFdiv (gLook 0) (gC (.int 2))) VL.gNil)) (gCall fMin (VL.gCons (gLook 1) (VL.gCons (gC (.int 7)) VL.gNil)))))))

def m__law_variable (A : Ad) : List D → Option Res := mOf 2 2 (g__law_variable A)

def g__law_symbol (A : Ad) : GS :=
 (gSeq (gIf (gB (g2 dEq (g2 dMod (gCall fInt (VL.gCons (gLook 0) VL.gNil)) (gC (.int 2))) (gC (.int 0)))) (gRet (g2 dIx (gLook 1) (g2 dMod (gCall fInt (VL.gCons (g2 dFdiv (gLook 0) (gC (.int 2))) VL.gNil)) (gCall fLen (VL.gCons (gLook 1) VL.gNil))))) gNext)
 (gRet (gFn (m__law_variable A) (VL.gCons (g2 dFdiv (gLook 0) (gC (.int 2))) (VL.gCons (gVar 2) VL.gNil)))))

def m__law_symbol (A : Ad) : List D → Option Res := mOf 3 3 (g__law_symbol A)

def g__law_rule (A : Ad) : GS :=
 (gSeq (gAsg (gFn (m__law_digits A) (VL.gCons (gVar 0) (VL.gCons (gL (gCat (gL (gLen (VL.gCons (gC (.int 9)) (VL.gCons (gC (.int 6)) VL.gNil)))) (g2 dMul (gL (gLen (VL.gCons (g2 dMul (gC (.int 4)) (g2 dPow (gC (.int 10)) (gC (.int 7)))) VL.gNil))) (gC (.int 8))))) VL.gNil))) (fName 3))
 (gSeq (gAsg (g2 dAdd (gC (.int 1)) (g2 dMod (gCall fInt (VL.gCons (g2 dIx (gLook 3) (gC (.int 0))) VL.gNil)) (gC (.int 3)))) (fName 4))
 (gSeq (gAsgN 5 (gLc (gIt (gCut (gVar 3) (gPart (gC (.int 2))) (gPart (g2 dAdd (gC (.int 2)) (gLook 4))))) (fName 7) gYes (gFn (m__law_symbol A) (VL.gCons (gVar 7) (VL.gCons (gVar 1) (VL.gCons (gVar 2) VL.gNil)))) [7]))
 (gSeq (gSetIx 5 (g2 dMod (gCall fInt (VL.gCons (g2 dFdiv (g2 dIx (gLook 3) (gC (.int 0))) (gC (.int 3))) VL.gNil)) (gLook 4)) (gFn (m__law_variable A) (VL.gCons (g2 dFdiv (g2 dIx (gLook 3) (gC (.int 2))) (gC (.int 2))) (VL.gCons (gVar 2) VL.gNil))))
 (gSeq (gAsg (gL (gLc (gIt (gCut (gVar 3) (gPart (gC (.int 5))) (gPart (g2 dAdd (gC (.int 5)) (g2 dIx (gLook 3) (gC (.int 1))))))) (fName 7) gYes (gFn (m__law_symbol A) (VL.gCons (gVar 7) (VL.gCons (gVar 1) (VL.gCons (gVar 2) VL.gNil)))) [7])) (fName 6))
 (gRet (VL.gTup (VL.gCons (gCall fTuple (VL.gCons (gVar 5) VL.gNil)) (VL.gCons (gCall fTuple (VL.gCons (gVar 6) VL.gNil)) VL.gNil)))))))))

def m__law_rule (A : Ad) : List D → Option Res := mOf 3 8 (g__law_rule A)

def g__law_side (A : Ad) : GS :=
 (gSeq (gIf (gB (g2 dEq (gCall fLen (VL.gCons (gLook 0) VL.gNil)) (gC (.int 0)))) (gRet (gC (.str "."))) gNext)
 (gRet (g2 dJoin (gC (.str " ")) (gL (gLc (gIt (gVar 0)) (fName 1) gYes (gCall fStr (VL.gCons (gLook 1) VL.gNil)) [1])))))

def m__law_side (A : Ad) : List D → Option Res := mOf 1 2 (g__law_side A)

def g__law_written (A : Ad) : GS :=
 (gSeq (gAsgN 3 (gLen (VL.gCons (g2 dAdd (g2 dAdd (g2 dAdd (gC (.str "grammar ")) (gVar 0)) (gC (.str " : "))) (gCall fStr (VL.gCons (gLook 1) VL.gNil))) VL.gNil)))
 (gSeq (gFor (gIt (gVar 2)) (fName 4) (gAppend 3 (g2 dAdd (g2 dAdd (gFn (m__law_side A) (VL.gCons (g2 dIx (gLook 4) (gC (.int 0))) VL.gNil)) (gC (.str " -> "))) (gFn (m__law_side A) (VL.gCons (g2 dIx (gLook 4) (gC (.int 1))) VL.gNil)))))
 (gRet (g2 dJoin (gC (.str "\n")) (gLook 3)))))

def m__law_written (A : Ad) : List D → Option Res := mOf 3 5 (g__law_written A)

def g__law_number (A : Ad) : GS :=
 (gSeq (gIf (gOr (gB (g2 dLt (gCall fLen (VL.gCons (gLook 0) VL.gNil)) (gC (.int 1)))) (gB (g2 dGt (gCall fLen (VL.gCons (gLook 0) VL.gNil)) (gC (.int 9))))) (gRet (gC .non)) gNext)
 (gSeq (gFor (gRg1 (VL.gCons (gCall fLen (VL.gCons (gLook 0) VL.gNil)) VL.gNil)) (fName 1) (gIf (gB (g2 dNotIn (g2 dIx (gLook 0) (gLook 1)) (gC (.str "0123456789")))) (gRet (gC .non)) gNext))
 (gRet (gCall fIntT (VL.gCons (gLook 0) VL.gNil)))))

def m__law_number (A : Ad) : List D → Option Res := mOf 1 2 (g__law_number A)

def g__law_read_symbol (A : Ad) : GS :=
 (gSeq (gIf (gAnd (gB (g2 dEq (gCall fLen (VL.gCons (gLook 0) VL.gNil)) (gC (.int 1)))) (gB (g2 dIn (gLook 0) (gLook 1)))) (gRet (gVar 0)) gNext)
 (gSeq (gAsg (gFn (m__law_number A) (VL.gCons (gVar 0) VL.gNil)) (fName 3))
 (gSeq (gIf (gOr (gB (g2 dIs (gLook 3) (gC .non))) (gB (g2 dGe (gLook 3) (gLook 2)))) (gRet (gC .non)) gNext)
 (gRet (gVar 3)))))

def m__law_read_symbol (A : Ad) : List D → Option Res := mOf 3 4 (g__law_read_symbol A)

def g__law_read_rule (A : Ad) : GS :=
 (gSeq (gAsgN 3 (gLen VL.gNil))
 (gSeq (gFor (gIt (gL (gSplit (gLook 0) (gC (.str " -> "))))) (fName 4) (gSeq (gAsgN 5 (gLen VL.gNil))
 (gSeq (gIf (gB (g2 dNe (gLook 4) (gC (.str ".")))) (gFor (gIt (gL (gSplit (gLook 4) (gC (.str " "))))) (fName 6) (gSeq (gAsg (gFn (m__law_read_symbol A) (VL.gCons (gVar 6) (VL.gCons (gVar 1) (VL.gCons (gVar 2) VL.gNil)))) (fName 7))
 (gSeq (gIf (gB (g2 dIs (gLook 7) (gC .non))) (gRet (gC .non)) gNext)
 (gAppend 5 (gVar 7))))) gNext)
 (gFrz 5 (gAppend 3 (gCall fTuple (VL.gCons (gVar 5) VL.gNil)))))))
 (gSeq (gIf (gOr (gB (g2 dNe (gCall fLen (VL.gCons (gLook 3) VL.gNil)) (gC (.int 2)))) (gB (g2 dEq (gCall fLen (VL.gCons (gL (gLc (gIt (g2 dIx (gLook 3) (gC (.int 0)))) (fName 7) (gNot (gTru (gIsi "str" (gLook 7)))) (gVar 7) [7])) VL.gNil)) (gC (.int 0))))) (gRet (gC .non)) gNext)
 (gSeq (gIf (gB (g2 dNe (g2 dAdd (g2 dAdd (gFn (m__law_side A) (VL.gCons (g2 dIx (gLook 3) (gC (.int 0))) VL.gNil)) (gC (.str " -> "))) (gFn (m__law_side A) (VL.gCons (g2 dIx (gLook 3) (gC (.int 1))) VL.gNil))) (gLook 0))) (gRet (gC .non)) gNext)
 (gRet (VL.gTup (VL.gCons (g2 dIx (gLook 3) (gC (.int 0))) (VL.gCons (g2 dIx (gLook 3) (gC (.int 1))) VL.gNil))))))))

def m__law_read_rule (A : Ad) : List D → Option Res := mOf 3 8 (g__law_read_rule A)

def g__law_read (A : Ad) : GS :=
 (gSeq (gAsg (gL (gSplit (gLook 0) (gC (.str "\n")))) (fName 1))
 (gSeq (gAsg (gL (gSplit (g2 dIx (gLook 1) (gC (.int 0))) (gC (.str " ")))) (fName 2))
 (gSeq (gIf (gOr (gB (g2 dNe (gCall fLen (VL.gCons (gLook 2) VL.gNil)) (gC (.int 4)))) (gNot (gTru (gFn (m__law_is_alphabet A) (VL.gCons (g2 dIx (gLook 2) (gC (.int 1))) VL.gNil))))) (gRet (VL.gTup (VL.gCons (gC (.str "line")) (VL.gCons (gC (.int 0)) VL.gNil)))) gNext)
 (gSeq (gAsg (gFn (m__law_number A) (VL.gCons (g2 dIx (gLook 2) (gC (.int 3))) VL.gNil)) (fName 3))
 (gSeq (gIf (gOr (gB (g2 dIs (gLook 3) (gC .non))) (gOr (gB (g2 dLt (gLook 3) (gC (.int 1)))) (gB (g2 dNe (g2 dIx (gLook 1) (gC (.int 0))) (gFn (m__law_written A) (VL.gCons (g2 dIx (gLook 2) (gC (.int 1))) (VL.gCons (gLook 3) (VL.gCons (gL (gLen VL.gNil)) VL.gNil)))))))) (gRet (VL.gTup (VL.gCons (gC (.str "line")) (VL.gCons (gC (.int 0)) VL.gNil)))) gNext)
 (gSeq (gAsgN 4 (gLen VL.gNil))
 (gSeq (gFor (gRg2 (VL.gCons (gC (.int 1)) (VL.gCons (gCall fLen (VL.gCons (gLook 1) VL.gNil)) VL.gNil))) (fName 5) (gSeq (gAsg (gFn (m__law_read_rule A) (VL.gCons (g2 dIx (gLook 1) (gLook 5)) (VL.gCons (g2 dIx (gLook 2) (gC (.int 1))) (VL.gCons (gVar 3) VL.gNil)))) (fName 6))
 (gSeq (gIf (gB (g2 dIs (gLook 6) (gC .non))) (gRet (VL.gTup (VL.gCons (gC (.str "line")) (VL.gCons (gVar 5) VL.gNil)))) gNext)
 (gAppend 4 (gVar 6)))))
 (gRet (VL.gTup (VL.gCons (gC (.str "grammar")) (VL.gCons (g2 dIx (gLook 2) (gC (.int 1))) (VL.gCons (gVar 3) (VL.gCons (gVar 4) VL.gNil)))))))))))))

def m__law_read (A : Ad) : List D → Option Res := mOf 1 7 (g__law_read A)

def g__law_word (A : Ad) : GS :=
 (gSeq (gAsg (gCall fStr (VL.gCons (g2 dMod (gCall fInt (VL.gCons (g2 dFdiv (gLook 0) (gC (.int 40))) VL.gNil)) (gLook 2)) VL.gNil)) (fName 3))
 (gSeq (gAsg (gL (gLen (VL.gCons (gVar 3) (VL.gCons (g2 dAdd (gC (.str "0")) (gVar 3)) (VL.gCons (gC (.str "00")) (VL.gCons (gC (.str "-1")) (VL.gCons (g2 dAdd (gC (.str "+")) (gVar 3)) (VL.gCons (gC (.str "-0")) (VL.gCons (gCall fStr (VL.gCons (gLook 2) VL.gNil)) (VL.gCons (gCall fStr (VL.gCons (g2 dSub (gLook 2) (gC (.int 1))) VL.gNil)) (VL.gCons (gCall fStr (VL.gCons (g2 dAdd (gLook 2) (gC (.int 1))) VL.gNil)) VL.gNil))))))))))) (fName 4))
 (gSeq (gAsg (g2 dAdd (gVar 4) (gL (gLen (VL.gCons (gC (.str "1000000000")) (VL.gCons (gC (.str "0000000001")) (VL.gCons (gC (.str "999999999")) (VL.gCons (gC (.str "1_0")) (VL.gCons (gC (.str "A")) (VL.gCons (gC (.str "True")) (VL.gCons (gC (.str ".")) (VL.gCons (gC (.str "..")) (VL.gCons (gC (.str "->")) (VL.gCons (gC (.str "=>")) (VL.gCons (gC (.str "-")) (VL.gCons (gC (.str ">")) (VL.gCons (gC (.str ":")) VL.gNil)))))))))))))))) (fName 4))
 (gSeq (gAsg (g2 dAdd (gVar 4) (gL (gLen (VL.gCons (gC (.str "")) (VL.gCons (gC (.str " ")) (VL.gCons (g2 dIx (gLook 1) (gC (.int 0))) (VL.gCons (g2 dIx (gLook 1) (g2 dSub (gCall fLen (VL.gCons (gLook 1) VL.gNil)) (gC (.int 1)))) (VL.gCons (g2 dAdd (gVar 1) (g2 dIx (gLook 1) (gC (.int 0)))) (VL.gCons (gRevS (gVar 1)) (VL.gCons (gVar 1) VL.gNil)))))))))) (fName 4))
 (gSeq (gAsg (g2 dAdd (gVar 4) (gL (gLen (VL.gCons (gC (.str "a")) (VL.gCons (gC (.str "z")) (VL.gCons (gC (.str "q")) (VL.gCons (gC (.str "aa")) (VL.gCons (gC (.str "ba")) (VL.gCons (gC (.str "grammar")) (VL.gCons (gC (.str "Grammar")) (VL.gCons (gC (.str "machine")) (VL.gCons (g2 dAdd (gVar 3) (gC (.str "."))) (VL.gCons (g2 dAdd (gVar 3) (g2 dIx (gLook 1) (gC (.int 0)))) (VL.gCons (gC (.str "0 0")) VL.gNil)))))))))))))) (fName 4))
 (gRet (g2 dIx (gLook 4) (g2 dMod (gCall fInt (VL.gCons (gLook 0) VL.gNil)) (gC (.int 40))))))))))

def m__law_word (A : Ad) : List D → Option Res := mOf 3 5 (g__law_word A)

def g__law_changed_line (A : Ad) : GS :=
 (gSeq (gAsg (gL (gSplit (gLook 0) (gC (.str " ")))) (fName 4))
 (gSeq (gAsg (g2 dMod (gCall fInt (VL.gCons (gLook 2) VL.gNil)) (gCall fLen (VL.gCons (gLook 4) VL.gNil))) (fName 5))
 (gSeq (gIf (gB (g2 dEq (gLook 1) (gC (.int 0)))) (gRet (g2 dJoin (gC (.str " ")) (g2 dAdd (g2 dAdd (gCut (gLook 4) (fun _ => some none) (gPart (gLook 5))) (gL (gLen (VL.gCons (gVar 3) VL.gNil)))) (gCut (gLook 4) (gPart (g2 dAdd (gLook 5) (gC (.int 1)))) (fun _ => some none))))) gNext)
 (gSeq (gIf (gB (g2 dEq (gLook 1) (gC (.int 1)))) (gRet (g2 dJoin (gC (.str " ")) (g2 dAdd (g2 dAdd (gCut (gLook 4) (fun _ => some none) (gPart (gLook 5))) (gL (gLen (VL.gCons (gVar 3) VL.gNil)))) (gCut (gLook 4) (gPart (gLook 5)) (fun _ => some none))))) gNext)
 (gRet (g2 dJoin (gC (.str " ")) (g2 dAdd (gCut (gLook 4) (fun _ => some none) (gPart (gLook 5))) (gCut (gLook 4) (gPart (g2 dAdd (gLook 5) (gC (.int 1)))) (fun _ => some none)))))))))

def m__law_changed_line (A : Ad) : List D → Option Res := mOf 4 6 (g__law_changed_line A)

def g__law_changed (A : Ad) : GS :=
 (gSeq (gAsg (g2 dMod (gCall fInt (VL.gCons (g2 dIx (gLook 1) (gC (.int 1))) VL.gNil)) (gCall fLen (VL.gCons (gLook 0) VL.gNil))) (fName 4))
 (gSeq (gAsg (g2 dIx (gC (.str "0123456789 abzAZ.->:\n_+m g0 ")) (g2 dMod (gCall fInt (VL.gCons (g2 dIx (gLook 1) (gC (.int 2))) VL.gNil)) (gC (.int 28)))) (fName 5))
 (gSeq (gIf (gB (g2 dEq (g2 dIx (gLook 1) (gC (.int 0))) (gC (.int 0)))) (gRet (g2 dAdd (g2 dAdd (gCut (gVar 0) (fun _ => some none) (gPart (gLook 4))) (gVar 5)) (gCut (gVar 0) (gPart (gLook 4)) (fun _ => some none)))) gNext)
 (gSeq (gIf (gB (g2 dEq (g2 dIx (gLook 1) (gC (.int 0))) (gC (.int 1)))) (gRet (g2 dAdd (gCut (gVar 0) (fun _ => some none) (gPart (gLook 4))) (gCut (gVar 0) (gPart (g2 dAdd (gLook 4) (gC (.int 1)))) (fun _ => some none)))) gNext)
 (gSeq (gIf (gB (g2 dEq (g2 dIx (gLook 1) (gC (.int 0))) (gC (.int 2)))) (gRet (g2 dAdd (g2 dAdd (gCut (gVar 0) (fun _ => some none) (gPart (gLook 4))) (gVar 5)) (gCut (gVar 0) (gPart (g2 dAdd (gLook 4) (gC (.int 1)))) (fun _ => some none)))) gNext)
 (gSeq (gIf (gB (g2 dEq (g2 dIx (gLook 1) (gC (.int 0))) (gC (.int 3)))) (gRet (g2 dAdd (g2 dAdd (g2 dAdd (gCut (gVar 0) (fun _ => some none) (gPart (gLook 4))) (gCut (gVar 0) (gPart (g2 dAdd (gLook 4) (gC (.int 1)))) (gPart (g2 dAdd (gLook 4) (gC (.int 2)))))) (g2 dIx (gLook 0) (gLook 4))) (gCut (gVar 0) (gPart (g2 dAdd (gLook 4) (gC (.int 2)))) (fun _ => some none)))) gNext)
 (gSeq (gIf (gB (g2 dEq (g2 dIx (gLook 1) (gC (.int 0))) (gC (.int 4)))) (gRet (gCut (gVar 0) (fun _ => some none) (gPart (gLook 4)))) gNext)
 (gSeq (gIf (gB (g2 dEq (g2 dIx (gLook 1) (gC (.int 0))) (gC (.int 5)))) (gRet (g2 dAdd (g2 dAdd (gVar 0) (gC (.str "\n"))) (gVar 0))) gNext)
 (gSeq (gAsg (gL (gSplit (gLook 0) (gC (.str "\n")))) (fName 6))
 (gSeq (gAsg (g2 dMod (gCall fInt (VL.gCons (g2 dIx (gLook 1) (gC (.int 1))) VL.gNil)) (gCall fLen (VL.gCons (gLook 6) VL.gNil))) (fName 7))
 (gSeq (gIf (gB (g2 dGt (g2 dIx (gLook 1) (gC (.int 0))) (gC (.int 10)))) (gSeq (gAsg (gC (.int 0)) (fName 7))
 (gIf (gAnd (gB (g2 dGt (g2 dIx (gLook 1) (gC (.int 4))) (gC (.int 0)))) (gB (g2 dGt (gCall fLen (VL.gCons (gLook 6) VL.gNil)) (gC (.int 1))))) (gAsg (g2 dAdd (gC (.int 1)) (g2 dMod (gCall fInt (VL.gCons (g2 dIx (gLook 1) (gC (.int 1))) VL.gNil)) (g2 dSub (gCall fLen (VL.gCons (gLook 6) VL.gNil)) (gC (.int 1))))) (fName 7)) gNext)) gNext)
 (gSeq (gIf (gB (g2 dEq (g2 dIx (gLook 1) (gC (.int 0))) (gC (.int 6)))) (gRet (g2 dJoin (gC (.str "\n")) (g2 dAdd (gCut (gLook 6) (fun _ => some none) (gPart (gLook 7))) (gCut (gLook 6) (gPart (g2 dAdd (gLook 7) (gC (.int 1)))) (fun _ => some none))))) gNext)
 (gSeq (gIf (gB (g2 dEq (g2 dIx (gLook 1) (gC (.int 0))) (gC (.int 7)))) (gRet (g2 dJoin (gC (.str "\n")) (g2 dAdd (gCut (gLook 6) (fun _ => some none) (gPart (g2 dAdd (gLook 7) (gC (.int 1))))) (gCut (gLook 6) (gPart (gLook 7)) (fun _ => some none))))) gNext)
 (gSeq (gIf (gB (g2 dEq (g2 dIx (gLook 1) (gC (.int 0))) (gC (.int 8)))) (gRet (g2 dJoin (gC (.str "\n")) (g2 dAdd (g2 dAdd (g2 dAdd (gCut (gLook 6) (fun _ => some none) (gPart (gLook 7))) (gCut (gLook 6) (gPart (g2 dAdd (gLook 7) (gC (.int 1)))) (gPart (g2 dAdd (gLook 7) (gC (.int 2)))))) (gL (gLen (VL.gCons (g2 dIx (gLook 6) (gLook 7)) VL.gNil)))) (gCut (gLook 6) (gPart (g2 dAdd (gLook 7) (gC (.int 2)))) (fun _ => some none))))) gNext)
 (gSeq (gIf (gB (g2 dEq (g2 dIx (gLook 1) (gC (.int 0))) (gC (.int 9)))) (gRet (g2 dJoin (gC (.str "\n")) (g2 dAdd (g2 dAdd (gCut (gLook 6) (fun _ => some none) (gPart (gLook 7))) (gL (gLen (VL.gCons (gC (.str "")) VL.gNil)))) (gCut (gLook 6) (gPart (gLook 7)) (fun _ => some none))))) gNext)
 (gSeq (gIf (gB (g2 dEq (g2 dIx (gLook 1) (gC (.int 0))) (gC (.int 10)))) (gRet (g2 dJoin (gC (.str "\n")) (g2 dAdd (g2 dAdd (gCut (gLook 6) (fun _ => some none) (gPart (gLook 7))) (gL (gLen (VL.gCons (g2 dAdd (g2 dIx (gLook 6) (gLook 7)) (g2 dIx (gL (gLen (VL.gCons (gC (.str " ")) (VL.gCons (gC (.str "\n")) VL.gNil)))) (g2 dMod (gCall fInt (VL.gCons (g2 dIx (gLook 1) (gC (.int 4))) VL.gNil)) (gC (.int 2))))) VL.gNil)))) (gCut (gLook 6) (gPart (g2 dAdd (gLook 7) (gC (.int 1)))) (fun _ => some none))))) gNext)
 (gSeq (gAsg (gFn (m__law_word A) (VL.gCons (g2 dIx (gLook 1) (gC (.int 3))) (VL.gCons (gVar 2) (VL.gCons (gVar 3) VL.gNil)))) (fName 8))
 (gSeq (gAsg (gFn (m__law_changed_line A) (VL.gCons (g2 dIx (gLook 6) (gLook 7)) (VL.gCons (g2 dIx (gL (gLen (VL.gCons (gC (.int 0)) (VL.gCons (gC (.int 0)) (VL.gCons (gC (.int 0)) (VL.gCons (gC (.int 0)) (VL.gCons (gC (.int 1)) (VL.gCons (gC (.int 1)) (VL.gCons (gC (.int 2)) VL.gNil))))))))) (g2 dSub (g2 dIx (gLook 1) (gC (.int 0))) (gC (.int 11)))) (VL.gCons (g2 dIx (gLook 1) (gC (.int 2))) (VL.gCons (gVar 8) VL.gNil))))) (fName 9))
 (gRet (g2 dJoin (gC (.str "\n")) (g2 dAdd (g2 dAdd (gCut (gLook 6) (fun _ => some none) (gPart (gLook 7))) (gL (gLen (VL.gCons (gVar 9) VL.gNil)))) (gCut (gLook 6) (gPart (g2 dAdd (gLook 7) (gC (.int 1)))) (fun _ => some none)))))))))))))))))))))))

def m__law_changed (A : Ad) : List D → Option Res := mOf 4 10 (g__law_changed A)

def g__law_side_alike (A : Ad) : GS :=
 (gSeq (gIf (gOr (gNot (gTru (gIsi "tuple" (gLook 0)))) (gB (g2 dNe (gCall fLen (VL.gCons (gLook 0) VL.gNil)) (gCall fLen (VL.gCons (gLook 1) VL.gNil))))) (gRet (gC (.bl false))) gNext)
 (gSeq (gFor (gRg1 (VL.gCons (gCall fLen (VL.gCons (gLook 1) VL.gNil)) VL.gNil)) (fName 2) (gIf (gTru (gIsi "str" (g2 dIx (gLook 1) (gLook 2)))) (gIf (gOr (gNot (gTru (gIsi "str" (g2 dIx (gLook 0) (gLook 2))))) (gB (g2 dNe (g2 dIx (gLook 0) (gLook 2)) (g2 dIx (gLook 1) (gLook 2))))) (gRet (gC (.bl false))) gNext) (gIf (gOr (gNot (gTru (gFn (m__law_whole A) (VL.gCons (g2 dIx (gLook 0) (gLook 2)) VL.gNil)))) (gB (g2 dNe (g2 dIx (gLook 0) (gLook 2)) (g2 dIx (gLook 1) (gLook 2))))) (gRet (gC (.bl false))) gNext)))
 (gRet (gC (.bl true)))))

def m__law_side_alike (A : Ad) : List D → Option Res := mOf 2 3 (g__law_side_alike A)

def g__law_kept (A : Ad) : GS :=
 (gSeq (gIf (gOr (gNot (gTru (gIsC A.C_Grammar (gLook 0)))) (gOr (gNot (gTru (gIsi "str" (gFld A.C_Grammar "alphabet" (gLook 0))))) (gB (g2 dNe (gFld A.C_Grammar "alphabet" (gLook 0)) (gLook 1))))) (gRet (gC (.bl false))) gNext)
 (gSeq (gIf (gOr (gNot (gTru (gFn (m__law_whole A) (VL.gCons (gFld A.C_Grammar "variables" (gLook 0)) VL.gNil)))) (gB (g2 dNe (gFld A.C_Grammar "variables" (gLook 0)) (gLook 2)))) (gRet (gC (.bl false))) gNext)
 (gSeq (gIf (gOr (gNot (gTru (gIsi "tuple" (gFld A.C_Grammar "rules" (gLook 0))))) (gB (g2 dNe (gCall fLen (VL.gCons (gFld A.C_Grammar "rules" (gLook 0)) VL.gNil)) (gCall fLen (VL.gCons (gLook 3) VL.gNil))))) (gRet (gC (.bl false))) gNext)
 (gSeq (gFor (gRg1 (VL.gCons (gCall fLen (VL.gCons (gLook 3) VL.gNil)) VL.gNil)) (fName 4) (gSeq (gAsg (g2 dIx (gFld A.C_Grammar "rules" (gVar 0)) (gVar 4)) (fName 5))
 (gSeq (gIf (gOr (gNot (gTru (gIsi "tuple" (gLook 5)))) (gB (g2 dNe (gCall fLen (VL.gCons (gLook 5) VL.gNil)) (gC (.int 2))))) (gRet (gC (.bl false))) gNext)
 (gIf (gOr (gNot (gTru (gFn (m__law_side_alike A) (VL.gCons (g2 dIx (gLook 5) (gC (.int 0))) (VL.gCons (g2 dIx (g2 dIx (gLook 3) (gLook 4)) (gC (.int 0))) VL.gNil))))) (gNot (gTru (gFn (m__law_side_alike A) (VL.gCons (g2 dIx (gLook 5) (gC (.int 1))) (VL.gCons (g2 dIx (g2 dIx (gLook 3) (gLook 4)) (gC (.int 1))) VL.gNil)))))) (gRet (gC (.bl false))) gNext))))
 (gRet (gC (.bl true)))))))

def m__law_kept (A : Ad) : List D → Option Res := mOf 4 6 (g__law_kept A)

def g__law_parsed (A : Ad) : GS :=
 (gTryG 1 A.C_BadLine (yRet (gXTup (gXCons (gVal (gC (.str "grammar"))) (gXCons (gCallR (m_parse_grammar A) (VL.gCons (gVar 0) VL.gNil)) gXNil)))) (gSeq (gAsg (gL (gLen (VL.gCons (gIsX 1 A.C_BadLine false) (VL.gCons (gIsX 1 A.C_BadLine false) (VL.gCons (gIsX 1 A.C_BadLine false) (VL.gCons (gIsX 1 A.C_BadLine false) VL.gNil)))))) (fName 2))
 (gSeq (gAsg (g2 dAdd (gVar 2) (gL (gLen (VL.gCons (gIsX 1 A.C_BadLine false) (VL.gCons (gIsX 1 A.C_BadLine false) VL.gNil))))) (fName 2))
 (gSeq (gIf (gOr (gNot (gTru (gIsX 1 A.C_BadLine true))) (gOr (gNot (gTru (gIsX 1 A.C_BadLine true))) (gB (g2 dGt (g2 dCnt (gLook 2) (gC (.bl true))) (gC (.int 0)))))) (gRet (VL.gTup (VL.gCons (gC (.str "other")) (VL.gCons (gC (.int 0)) VL.gNil)))) gNext)
 (gRet (VL.gTup (VL.gCons (gC (.str "line")) (VL.gCons (gXf 1 A.C_BadLine "index") VL.gNil))))))))

def m__law_parsed (A : Ad) : List D → Option Res := mOf 1 3 (g__law_parsed A)

def g__law_formatted (A : Ad) : GS :=
 (gSeq (gAsg (gFn (m_format_grammar A) (VL.gCons (gVar 0) VL.gNil)) (fName 2))
 (gRet (gBl (gAnd (gB (gIsi "str" (gLook 2))) (gB (g2 dEq (gLook 2) (gLook 1)))))))

def m__law_formatted (A : Ad) : List D → Option Res := mOf 2 3 (g__law_formatted A)

def g__law_read_alike (A : Ad) : GS :=
 (gSeq (gAsg (gFn (m__law_read A) (VL.gCons (gVar 0) VL.gNil)) (fName 1))
 (gSeq (gAsg (gFn (m__law_parsed A) (VL.gCons (gVar 0) VL.gNil)) (fName 2))
 (gSeq (gIf (gB (g2 dNe (g2 dIx (gLook 2) (gC (.int 0))) (g2 dIx (gLook 1) (gC (.int 0))))) (gRet (gC (.bl false))) gNext)
 (gSeq (gIf (gB (g2 dEq (g2 dIx (gLook 1) (gC (.int 0))) (gC (.str "line")))) (gRet (gBl (gAnd (gB (gFn (m__law_whole A) (VL.gCons (g2 dIx (gLook 2) (gC (.int 1))) VL.gNil))) (gB (g2 dEq (g2 dIx (gLook 2) (gC (.int 1))) (g2 dIx (gLook 1) (gC (.int 1)))))))) gNext)
 (gSeq (gIf (gNot (gTru (gFn (m__law_kept A) (VL.gCons (g2 dIx (gLook 2) (gC (.int 1))) (VL.gCons (g2 dIx (gLook 1) (gC (.int 1))) (VL.gCons (g2 dIx (gLook 1) (gC (.int 2))) (VL.gCons (g2 dIx (gLook 1) (gC (.int 3))) VL.gNil))))))) (gRet (gC (.bl false))) gNext)
 (gSeq (gAsg (gEqO A.C_Grammar (m_Grammar_eq A) (g2 dIx (gLook 2) (gC (.int 1))) (gMake A.C_Grammar (i_Grammar A) (VL.gCons (g2 dIx (gLook 1) (gC (.int 1))) (VL.gCons (g2 dIx (gLook 1) (gC (.int 2))) (VL.gCons (gL (gItems (g2 dIx (gLook 1) (gC (.int 3))))) VL.gNil))))) (fName 3))
 (gRet (gBl (gAnd (gB (gIsi "bool" (gLook 3))) (gB (gBl (gAnd (gB (gLook 3)) (gB (gFn (m__law_formatted A) (VL.gCons (g2 dIx (gLook 2) (gC (.int 1))) (VL.gCons (gLook 0) VL.gNil))))))))))))))))

def m__law_read_alike (A : Ad) : List D → Option Res := mOf 1 4 (g__law_read_alike A)

def g_law (A : Ad) : GS :=
 (gSeq (gAsg (gFn (m__law_alphabet A) (VL.gCons (gFn (m__law_cell A) (VL.gCons (gVar 0) (VL.gCons (gC (.int 0)) VL.gNil))) VL.gNil)) (fName 1))
 (gSeq (gAsg (gFn (m__law_digits A) (VL.gCons (gFn (m__law_cell A) (VL.gCons (gVar 0) (VL.gCons (gC (.int 1)) VL.gNil))) (VL.gCons (gL (gLen (VL.gCons (gC (.int 8)) (VL.gCons (gC (.int 5)) (VL.gCons (gC (.int 32)) (VL.gCons (gC (.int 999999999)) (VL.gCons (gC (.int 7)) (VL.gCons (gC (.int 8)) VL.gNil)))))))) VL.gNil))) (fName 2))
 (gSeq (gAsg (g2 dAdd (gC (.int 1)) (g2 dIx (gLook 2) (gC (.int 1)))) (fName 3))
 (gSeq (gIf (gOr (gB (g2 dEq (g2 dIx (gLook 2) (gC (.int 0))) (gC (.int 5)))) (gB (g2 dEq (g2 dIx (gLook 2) (gC (.int 0))) (gC (.int 6))))) (gAsg (g2 dAdd (gC (.int 9)) (g2 dIx (gLook 2) (gC (.int 2)))) (fName 3)) gNext)
 (gSeq (gIf (gB (g2 dEq (g2 dIx (gLook 2) (gC (.int 0))) (gC (.int 7)))) (gAsg (g2 dAdd (gC (.int 1)) (g2 dIx (gLook 2) (gC (.int 3)))) (fName 3)) gNext)
 (gSeq (gIf (gB (g2 dEq (g2 dIx (gLook 2) (gC (.int 0))) (gC (.int 4)))) (gAsg (g2 dSub (gC (.int 999999999)) (g2 dIx (gLook 2) (gC (.int 2)))) (fName 3)) gNext)
 (gSeq (gAsg (gL (gLc (gRg1 (VL.gCons (g2 dIx (gLook 2) (gC (.int 4))) VL.gNil)) (fName 7) gYes (gFn (m__law_rule A) (VL.gCons (gFn (m__law_cell A) (VL.gCons (gVar 0) (VL.gCons (g2 dAdd (gC (.int 2)) (gVar 7)) VL.gNil))) (VL.gCons (gVar 1) (VL.gCons (gVar 3) VL.gNil)))) [7])) (fName 4))
 (gSeq (gIf (gB (g2 dEq (g2 dIx (gLook 2) (gC (.int 5))) (gC (.int 0)))) (gAsg (g2 dMul (gVar 4) (gC (.int 10))) (fName 4)) gNext)
 (gSeq (gAsg (gFn (m__law_written A) (VL.gCons (gVar 1) (VL.gCons (gVar 3) (VL.gCons (gVar 4) VL.gNil)))) (fName 5))
 (gSeq (gAsg (gMake A.C_Grammar (i_Grammar A) (VL.gCons (gVar 1) (VL.gCons (gVar 3) (VL.gCons (gL (gLc (gIt (gVar 4)) (fName 12) gYes (gL (gLen (VL.gCons (gL (gItems (g2 dIx (gLook 12) (gC (.int 0))))) (VL.gCons (gL (gItems (g2 dIx (gLook 12) (gC (.int 1))))) VL.gNil)))) [12])) VL.gNil)))) (fName 6))
 (gSeq (gIf (gOr (gNot (gTru (gFn (m__law_formatted A) (VL.gCons (gLook 6) (VL.gCons (gLook 5) VL.gNil))))) (gB (g2 dNe (g2 dIx (gFn (m__law_read A) (VL.gCons (gLook 5) VL.gNil)) (gC (.int 0))) (gC (.str "grammar"))))) (gRet (gC (.bl false))) gNext)
 (gSeq (gIf (gOr (gNot (gTru (gFn (m__law_read_alike A) (VL.gCons (gLook 5) VL.gNil)))) (gNot (gTru (gFn (m__law_read_alike A) (VL.gCons (gC (.str "")) VL.gNil))))) (gRet (gC (.bl false))) gNext)
 (gSeq (gFor (gRg1 (VL.gCons (gC (.int 15)) VL.gNil)) (fName 7) (gSeq (gAsg (gFn (m__law_digits A) (VL.gCons (gFn (m__law_cell A) (VL.gCons (gVar 0) (VL.gCons (g2 dAdd (gC (.int 8)) (gVar 7)) VL.gNil))) (VL.gCons (gL (gLen (VL.gCons (gC (.int 18)) (VL.gCons (gC (.int 40000)) (VL.gCons (gC (.int 30)) (VL.gCons (gC (.int 4000000)) (VL.gCons (gC (.int 6)) VL.gNil))))))) VL.gNil))) (fName 8))
 (gIf (gNot (gTru (gFn (m__law_read_alike A) (VL.gCons (gFn (m__law_changed A) (VL.gCons (gLook 5) (VL.gCons (gLook 8) (VL.gCons (gLook 1) (VL.gCons (gLook 3) VL.gNil))))) VL.gNil)))) (gRet (gC (.bl false))) gNext)))
 (gSeq (gFor (gIt (gL (gLen (VL.gCons (g2 dAdd (g2 dAdd (gC (.str "grammar ")) (gVar 1)) (gC (.str " : 0"))) (VL.gCons (g2 dAdd (g2 dAdd (gC (.str "grammar ")) (gVar 1)) (gC (.str " : 1000000000"))) (VL.gCons (gC (.str "grammar  : 1")) (VL.gCons (gC (.str "")) (VL.gCons (gC (.str " ")) VL.gNil)))))))) (fName 9) (gIf (gOr (gNot (gTru (gFn (m__law_read_alike A) (VL.gCons (gLook 9) VL.gNil)))) (gOr (gNot (gTru (gFn (m__law_read_alike A) (VL.gCons (g2 dAdd (gLook 9) (gLook 5)) VL.gNil)))) (gNot (gTru (gFn (m__law_read_alike A) (VL.gCons (g2 dAdd (gLook 5) (gCut (gLook 9) (fun _ => some none) (gPart (gC (.int 1))))) VL.gNil)))))) (gRet (gC (.bl false))) gNext))
 (gSeq (gFor (gIt (gL (gLen (VL.gCons (gC (.str "0 -> ")) (VL.gCons (gC (.str "0 ->")) (VL.gCons (gC (.str "0 -> . .")) (VL.gCons (gC (.str ". -> 0")) (VL.gCons (gC (.str " -> 0")) (VL.gCons (gC (.str "0 -> 00")) (VL.gCons (gC (.str "0 -> 0 -> 0")) (VL.gCons (gC (.str "0")) (VL.gCons (gC (.str "0 -> .")) (VL.gCons (gC (.str "0 -> 0 0")) (VL.gCons (gC (.str "-> 0")) VL.gNil)))))))))))))) (fName 10) (gIf (gOr (gNot (gTru (gFn (m__law_read_alike A) (VL.gCons (g2 dAdd (g2 dAdd (gLook 5) (gC (.str "\n"))) (gLook 10)) VL.gNil)))) (gNot (gTru (gFn (m__law_read_alike A) (VL.gCons (g2 dAdd (g2 dAdd (g2 dAdd (g2 dAdd (gLook 5) (gC (.str "\n"))) (gLook 10)) (gC (.str " "))) (g2 dIx (gLook 1) (gC (.int 0)))) VL.gNil))))) (gRet (gC (.bl false))) gNext))
 (gSeq (gAsg (gFn (m__law_parsed A) (VL.gCons (gVar 5) VL.gNil)) (fName 11))
 (gRet (gBl (gAnd (gB (g2 dEq (g2 dIx (gLook 11) (gC (.int 0))) (gC (.str "grammar")))) (gB (gBl (gAnd (gB (gFn (m__law_kept A) (VL.gCons (g2 dIx (gLook 11) (gC (.int 1))) (VL.gCons (gLook 1) (VL.gCons (gLook 3) (VL.gCons (gLook 4) VL.gNil)))))) (gB (gFn (m__law_formatted A) (VL.gCons (gLook 6) (VL.gCons (gLook 5) VL.gNil))))))))))))))))))))))))))

def m_law (A : Ad) : List D → Option Res := mOf 1 13 (g_law A)

end K43
end

section
/-! VU: texts of plain letters: split, join, numbers. -/
namespace VL
open PySem PySem.Spec PyProof.Rows L2
abbrev Tx := List Lt
def tn (x : Tx) : List Nat := x.map Fin.val
def toLt (n : Nat) : Lt := Fin.ofNat 128 n
theorem toLt_val {n : Nat} (h : n < 128) : (toLt n).val = n := Nat.mod_eq_of_lt h
theorem tn_toLt {l : List Nat} (h : ∀ c ∈ l, c < 128) : tn (l.map toLt) = l := by
  unfold tn
  rw [List.map_map]
  exact (List.map_congr_left fun c hc => toLt_val (h c hc)).trans (List.map_id' l)
theorem tn_inj {x y : Tx} (h : tn x = tn y) : x = y := by
  induction x generalizing y with
  | nil => cases y with
    | nil => rfl
    | cons a y => cases h
  | cons a x ih => cases y with
    | nil => cases h
    | cons b y =>
      injection h with h1 h2
      rw [Fin.ext h1, ih h2]
theorem tn_len (x : Tx) : (tn x).length = x.length := List.length_map ..
theorem tn_app (x y : Tx) : tn (x ++ y) = tn x ++ tn y := List.map_append ..
theorem tn_small (x : Tx) : ∀ c ∈ tn x, c < 128 := by
  intro c hc
  obtain ⟨a, _, rfl⟩ := List.mem_map.mp hc
  exact a.isLt
theorem tn_mem {c : Lt} {x : Tx} : c.val ∈ tn x ↔ c ∈ x := by
  constructor
  · intro h
    obtain ⟨a, h1, h2⟩ := List.mem_map.mp h
    rw [← Fin.ext h2]; exact h1
  · exact fun h => List.mem_map.mpr ⟨c, h, rfl⟩
def joinT (s : Tx) : List Tx → Tx
  | [] => []
  | [p] => p
  | p :: q :: r => p ++ (s ++ joinT s (q :: r))
theorem tn_join (s : Tx) : ∀ ys : List Tx, tn (joinT s ys) = TL.joinL (tn s) (ys.map tn)
  | [] => rfl
  | [p] => rfl
  | p :: q :: r => by
    show tn (p ++ (s ++ joinT s (q :: r))) = tn p ++ (tn s ++ TL.joinL (tn s) ((q :: r).map tn))
    rw [tn_app, tn_app, tn_join s (q :: r)]
theorem joinT_cons (s p : Tx) {ys : List Tx} (h : ys ≠ []) : joinT s (p :: ys) = p ++ s ++ joinT s ys := by
  cases ys with
  | nil => exact absurd rfl h
  | cons q r => rw [List.append_assoc]; rfl
theorem joinT_app (s : Tx) : ∀ {xs ys : List Tx}, xs ≠ [] → ys ≠ [] → joinT s (xs ++ ys) = joinT s xs ++ s ++ joinT s ys
  | [], _, h, _ => absurd rfl h
  | [p], ys, _, h => joinT_cons s p h
  | p :: q :: r, ys, _, h => by
    rw [List.cons_append, joinT_cons s p (by simp), joinT_app s (xs := q :: r) (by simp) h, joinT_cons s p (ys := q :: r) (by simp)]
    simp
theorem joinT_mem {s p : Tx} {c : Lt} : ∀ {ys : List Tx}, p ∈ ys → c ∈ p → c ∈ joinT s ys
  | [q], hp, hc => by simp at hp; rw [← hp]; exact hc
  | q :: r :: t, hp, hc => by
    rw [joinT_cons s q (by simp)]
    rcases List.mem_cons.mp hp with h | h
    · rw [← h]; simp [hc]
    · have := joinT_mem (s := s) h hc
      simp [this]
theorem joinT_of {s : Tx} {c : Lt} : ∀ {ys : List Tx}, c ∈ joinT s ys → c ∈ s ∨ ∃ p ∈ ys, c ∈ p
  | [], h => by cases h
  | [q], h => .inr ⟨q, by simp, h⟩
  | q :: r :: t, h => by
    rw [joinT_cons s q (by simp), List.mem_append, List.mem_append] at h
    rcases h with (h | h) | h
    · exact .inr ⟨q, by simp, h⟩
    · exact .inl h
    · rcases joinT_of h with h | ⟨p, h1, h2⟩
      · exact .inl h
      · exact .inr ⟨p, List.mem_cons_of_mem _ h1, h2⟩
theorem joinT_len (s : Tx) : ∀ ys : List Tx, (joinT s ys).length ≤ (ys.map List.length).sum + ys.length * s.length
  | [] => by simp [joinT]
  | [p] => by simp [joinT]
  | p :: q :: r => by
    have := joinT_len s (q :: r)
    rw [joinT_cons s p (by simp)]
    simp only [List.length_append, List.map_cons, List.sum_cons, List.length_cons, Nat.add_mul, Nat.one_mul] at this ⊢
    omega
theorem joinT_len2 (s : Tx) : ∀ {ys : List Tx}, ys ≠ [] → (ys.map List.length).sum + ys.length * s.length = (joinT s ys).length + s.length
  | [], h => absurd rfl h
  | [p], _ => by simp [joinT]
  | p :: q :: r, _ => by
    have := joinT_len2 s (ys := q :: r) (by simp)
    rw [joinT_cons s p (by simp)]
    simp only [List.length_append, List.map_cons, List.sum_cons, List.length_cons, Nat.add_mul, Nat.one_mul] at this ⊢
    omega
theorem dJoin_sep (s : Tx) (ys : List Tx) (h : (ys.map List.length).sum + ys.length * s.length ≤ 16777216) : dJoin (alD s) (.lst (ys.map alD)) = some (alD (joinT s ys)) := by
  show (match strsOf (ys.map alD) with | some zs => if (zs.map Str.length).sum + zs.length * Str.length ⟨(s.map Fin.val).toArray⟩ ≤ 16777216 then some (D.str (Txt.join ⟨(s.map Fin.val).toArray⟩ zs)) else none | none => none) = _
  rw [strs_al]
  have e : ((ys.map fun x => (⟨(x.map Fin.val).toArray⟩ : Str)).map Str.length).sum = (ys.map List.length).sum := by
    rw [List.map_map]
    congr 1
    apply List.map_congr_left
    intro x _
    show (x.map Fin.val).toArray.size = _
    simp
  have e2 : Str.length ⟨(s.map Fin.val).toArray⟩ = s.length := by show (s.map Fin.val).toArray.size = _; simp
  have e3 : (ys.map fun x => (⟨(x.map Fin.val).toArray⟩ : Str)) = (ys.map tn).map SX.S := by rw [List.map_map]; rfl
  show (if ((ys.map fun x => (⟨(x.map Fin.val).toArray⟩ : Str)).map Str.length).sum + (ys.map fun x => (⟨(x.map Fin.val).toArray⟩ : Str)).length * Str.length ⟨(s.map Fin.val).toArray⟩ ≤ 16777216 then some (D.str (Txt.join (SX.S (tn s)) (ys.map fun x => (⟨(x.map Fin.val).toArray⟩ : Str)))) else none) = _
  rw [e, e2, List.length_map, if_pos h, e3, SX.join_S, ← tn_join]
  rfl
/-! split -/
def sp (s x : Tx) : List Tx := (TL.spl (tn s) 0 [] (tn x)).map (List.map toLt)
theorem mem_joinL {S : List Nat} {c : Nat} {p : List Nat} : ∀ {ps : List (List Nat)}, p ∈ ps → c ∈ p → c ∈ TL.joinL S ps
  | [q], hp, hc => by simp at hp; rw [← hp]; exact hc
  | q :: r :: t, hp, hc => by
    show c ∈ q ++ (S ++ TL.joinL S (r :: t))
    rcases List.mem_cons.mp hp with h | h
    · rw [← h]; simp [hc]
    · have := mem_joinL (S := S) h hc
      simp [this]
theorem tn_256 (s : Tx) : (tn s).all (· < 256) = true := by
  rw [List.all_eq_true]
  intro c hc
  have := tn_small s c hc
  exact decide_eq_true (by omega)
theorem spl_joined {s x : Tx} (hs : s ≠ []) : TL.joinL (tn s) (TL.spl (tn s) 0 [] (tn x)) = tn x := by
  have hs' : tn s ≠ [] := by intro h; exact hs (List.map_eq_nil_iff.mp h)
  have h1 := StrLaws.join_split (SX.S (tn x)) (SX.S (tn s))
  rw [SX.split_S hs' (tn_256 s), ← TL.join_eq, SX.join_S] at h1
  exact SX.S_inj h1
theorem spl_small {s x : Tx} (hs : s ≠ []) : ∀ p ∈ TL.spl (tn s) 0 [] (tn x), ∀ c ∈ p, c < 128 := by
  intro p hp c hc
  have := mem_joinL (S := tn s) hp hc
  rw [spl_joined hs] at this
  exact tn_small x c this
theorem sp_tn {s x : Tx} (hs : s ≠ []) : (sp s x).map tn = TL.spl (tn s) 0 [] (tn x) := by
  unfold sp
  rw [List.map_map]
  exact (List.map_congr_left fun p hp => tn_toLt (spl_small hs p hp)).trans (List.map_id' _)
theorem split_sp {s x : Tx} (hs : s ≠ []) : Txt.split (SX.S (tn x)) (SX.S (tn s)) = (sp s x).map fun p => SX.S (tn p) := by
  have hs' : tn s ≠ [] := by intro h; exact hs (List.map_eq_nil_iff.mp h)
  rw [SX.split_S hs' (tn_256 s), ← sp_tn hs, List.map_map]
  rfl
theorem sp_join {s x : Tx} (hs : s ≠ []) : joinT s (sp s x) = x := by
  refine tn_inj ?_
  rw [tn_join, sp_tn hs, spl_joined hs]
theorem sp_ne {s x : Tx} (hs : s ≠ []) : sp s x ≠ [] := by
  intro h
  have h1 := PyProof.Rows.split_pos (SX.S (tn x)) (SX.S (tn s))
  rw [split_sp hs, h] at h1
  simp at h1
theorem sp_free {c : Lt} {x : Tx} : ∀ p ∈ sp [c] x, c ∉ p := by
  intro p hp hc
  have h1 := StrLaws.split_free (SX.S (tn x)) c.val (SX.S (tn p)) (by
    show SX.S (tn p) ∈ Txt.split (SX.S (tn x)) (SX.S (tn [c]))
    rw [split_sp (by simp)]
    exact List.mem_map.mpr ⟨p, hp, rfl⟩)
  exact h1 (by show c.val ∈ (tn p).toArray.toList; simpa using tn_mem.mpr hc)
theorem sp_back {c : Lt} {ws : List Tx} (h0 : ws ≠ []) (h : ∀ w ∈ ws, c ∉ w) : sp [c] (joinT [c] ws) = ws := by
  have h1 : (sp [c] (joinT [c] ws)).map tn = ws.map tn := by
    rw [sp_tn (by simp), tn_join]
    exact TL.spl_join (s := c.val) (S := []) (by simpa using h0) (by
      intro p hp hc
      obtain ⟨w, hw, rfl⟩ := List.mem_map.mp hp
      exact h w hw (tn_mem.mp hc))
  exact (List.map_inj_right fun x y h => tn_inj h).mp h1
theorem sp_len {s x : Tx} (hs : s ≠ []) : (sp s x).length ≤ x.length + 1 := by
  have h := joinT_len2 s (ys := sp s x) (sp_ne hs)
  rw [sp_join hs] at h
  have h2 : 1 ≤ s.length := List.length_pos_iff.mpr hs
  have h3 : (sp s x).length * 1 ≤ (sp s x).length * s.length := Nat.mul_le_mul_left _ h2
  by_cases h4 : (sp s x).length ≤ 1
  · omega
  · obtain ⟨k, hk⟩ : ∃ k, (sp s x).length = k + 1 := ⟨(sp s x).length - 1, by omega⟩
    rw [hk, Nat.add_mul, Nat.one_mul] at h
    have h5 : k * 1 ≤ k * s.length := Nat.mul_le_mul_left _ h2
    omega
theorem le_sumL {p : Tx} : ∀ {ys : List Tx}, p ∈ ys → p.length ≤ (ys.map List.length).sum
  | q :: r, h => by
    rw [List.map_cons, List.sum_cons]
    rcases List.mem_cons.mp h with h | h
    · rw [h]; omega
    · have := le_sumL h
      omega
theorem sp_short {s x : Tx} (hs : s ≠ []) : ∀ p ∈ sp s x, p.length ≤ x.length := by
  intro p hp
  have h := joinT_len2 s (ys := sp s x) (sp_ne hs)
  rw [sp_join hs] at h
  have h1 : p.length ≤ ((sp s x).map List.length).sum := le_sumL hp
  obtain ⟨k, hk⟩ : ∃ k, (sp s x).length = k + 1 := ⟨(sp s x).length - 1, by have := List.length_pos_iff.mpr (sp_ne (s := s) (x := x) hs); omega⟩
  rw [hk, Nat.add_mul, Nat.one_mul] at h
  omega
theorem e_split {c : Env} {ga gb : GE} {x s : Tx} (h1 : ga c = some (alD x)) (h2 : gb c = some (alD s)) (hs : s ≠ []) (hl : x.length + 2 ≤ sizeLine) : gSplit ga gb c = some ((sp s x).map alD) := by
  have e1 : (SX.S (tn x)).length = x.length := by rw [SX.S_len, tn_len]
  have e2 : ((SX.S (tn s)).length == 0) = false := by
    rw [SX.S_len, tn_len]
    have := List.length_pos_iff.mpr hs
    simp; exact hs
  unfold gSplit
  rw [h1, h2]
  show (if ((SX.S (tn s)).length == 0) = false ∧ (SX.S (tn x)).length + 2 ≤ sizeLine then some ((Txt.split (SX.S (tn x)) (SX.S (tn s))).map D.str) else none) = _
  rw [if_pos ⟨e2, by rw [e1]; exact hl⟩, split_sp hs, List.map_map]
  rfl
/-- the text of an arrow between blanks -/
def arrow : Tx := [32, 45, 62, 32]
theorem pre_second {s t : Nat} {S p : List Nat} (h : p[1]? ≠ some t) : TL.pre (s :: t :: S) p = false := by
  unfold TL.pre
  rw [Bool.eq_false_iff]
  intro e
  have e2 := eq_of_beq e
  apply h
  have e3 := congrArg (fun l : List Nat => l[1]?) e2
  simp only [List.getElem?_take] at e3
  rw [if_pos (by simp)] at e3
  rw [e3]; rfl
theorem sp_arrow {a b : Tx} (ha : (45 : Lt) ∉ a) (hb : (45 : Lt) ∉ b) : sp arrow (a ++ arrow ++ b) = [a, b] := by
  have h1 : (sp arrow (a ++ arrow ++ b)).map tn = [a, b].map tn := by
    rw [sp_tn (by decide), tn_app, tn_app, List.append_assoc]
    have na : ∀ c ∈ tn a, c ≠ 45 := fun c hc e => ha (tn_mem.mp (by rw [e] at hc; exact hc))
    have nb : ∀ c ∈ tn b, c ≠ 45 := fun c hc e => hb (tn_mem.mp (by rw [e] at hc; exact hc))
    rw [TL.spl_part (by decide) (fun i hi => ?_)]
    · rw [TL.spl_last (fun i hi => ?_)]
      · rfl
      · show TL.pre (32 :: 45 :: [62, 32]) _ = false
        refine pre_second ?_
        rw [List.getElem?_drop]
        intro e
        exact nb 45 (List.mem_of_getElem? e) rfl
    · show TL.pre (32 :: 45 :: [62, 32]) _ = false
      refine pre_second ?_
      rw [List.getElem?_drop]
      by_cases h : i + 1 < (tn a).length
      · rw [List.getElem?_append_left h]
        intro e
        exact na 45 (List.mem_of_getElem? e) rfl
      · rw [List.getElem?_append_right (by omega), show i + 1 - (tn a).length = 0 by omega]
        show some 32 ≠ some 45
        simp
  exact (List.map_inj_right fun x y h => tn_inj h).mp h1
/-! numbers -/
def decT (n : Nat) : Tx := (TL.numL n).map toLt
theorem numL_small (n : Nat) : ∀ c ∈ TL.numL n, c < 128 := fun c hc => by have := TL.numL_digits n c hc; omega
theorem tn_dec (n : Nat) : tn (decT n) = TL.numL n := tn_toLt (numL_small n)
theorem dec_ne (n : Nat) : decT n ≠ [] := fun h => TL.numL_ne n (List.map_eq_nil_iff.mp h)
def isDig (c : Lt) : Bool := decide (48 ≤ c.val) && decide (c.val ≤ 57)
theorem dec_dig (n : Nat) : ∀ c ∈ decT n, isDig c = true := by
  intro c hc
  have := TL.numL_digits n c.val (by rw [← tn_dec]; exact tn_mem.mpr hc)
  unfold isDig
  rw [decide_eq_true this.1, decide_eq_true this.2]
  rfl
theorem dec_inj {m n : Nat} (h : decT m = decT n) : m = n := TL.numL_inj (by rw [← tn_dec, ← tn_dec, h])
theorem dec_len {n k : Nat} (hk : 0 < k) (h : n < 10 ^ k) : (decT n).length ≤ k := by
  have := TL.numL_len hk h
  rw [← tn_dec, tn_len] at this
  exact this
def valT (w : Tx) : Nat := NumText.digitsVal (tn w)
theorem val_dec (n : Nat) : valT (decT n) = n := by
  unfold valT
  rw [tn_dec, TL.numL_val]
theorem log_lt {n k : Nat} (h : n < 2 ^ k) (hk : 0 < k) : n.log2 < k := by
  by_cases h0 : n = 0
  · subst h0
    show Nat.log2 0 < k
    simpa using hk
  · exact (Nat.log2_lt h0).mpr h
theorem str_num (n : Nat) (h : n < 2 ^ 100) : fStr [.int (n : Nat)] = some (alD (decT n)) := by
  have h1 : ((n : Nat) : Int).natAbs.log2 < 1920 := by
    have := log_lt (n := n) (k := 100) h (by decide)
    show Nat.log2 (Int.natAbs (n : Int)) < 1920
    rw [Int.natAbs_natCast]
    omega
  show (if ((n : Nat) : Int).natAbs.log2 < 1920 then some (D.str (Str.ofString (toString ((n : Nat) : Int)))) else none) = _
  rw [if_pos h1, SX.num_S, ← tn_dec]
  rfl
theorem int_txt {w : Tx} (h : ∀ c ∈ w, isDig c = true) (h0 : w ≠ []) (hl : w.length ≤ 600) : fIntT [alD w] = some (.int (valT w : Nat)) := by
  show (if (SX.S (tn w)).length ≤ 640 then (PySem.intText? (SX.S (tn w))).map D.int else none) = _
  rw [if_pos (by rw [SX.S_len, tn_len]; omega), SX.int_S ?_ (by intro h; exact h0 (List.map_eq_nil_iff.mp h)) (by rw [tn_len]; omega)]
  · rfl
  · rw [List.all_eq_true]
    intro c hc
    obtain ⟨a, h1, rfl⟩ := List.mem_map.mp hc
    have := h a h1
    exact this
theorem dv_snoc (l : List Nat) (c : Nat) : NumText.digitsVal (l ++ [c]) = NumText.digitsVal l * 10 + (c - 48) := by
  unfold NumText.digitsVal
  rw [List.foldl_append]
  rfl
theorem fold_ge : ∀ (l : List Nat) (a : Nat), a ≤ l.foldl (fun acc c => acc * 10 + (c - 48)) a
  | [], a => Nat.le_refl _
  | c :: l, a => by
    rw [List.foldl_cons]
    have := fold_ge l (a * 10 + (c - 48))
    omega
theorem numL_back (l : List Nat) (h : NumText.AllDigits l) (h0 : l ≠ []) (h1 : l.length = 1 ∨ l.head? ≠ some 48) : TL.numL (NumText.digitsVal l) = l := by
  obtain ⟨n, hn⟩ : ∃ n, l.length = n := ⟨_, rfl⟩
  induction n generalizing l with
  | zero => exact absurd (List.length_eq_zero_iff.mp hn) h0
  | succ n ih =>
    obtain ⟨l', c, rfl⟩ : ∃ l' c, l = l' ++ [c] := ⟨l.dropLast, l.getLast h0, (List.dropLast_concat_getLast h0).symm⟩
    have hc := h c (by simp)
    rw [dv_snoc]
    cases l' with
    | nil =>
      have : NumText.digitsVal [] * 10 + (c - 48) = c - 48 := by show 0 * 10 + (c - 48) = _; omega
      rw [this, TL.numL_lt (by omega)]
      show [48 + (c - 48)] = [c]
      congr 1
      omega
    | cons d t =>
      have hhd : d ≠ 48 := by
        rcases h1 with h1 | h1
        · simp at h1
        · intro e; exact h1 (by rw [e]; rfl)
      have hd := h d (by simp)
      have hih := ih (d :: t) (fun x hx => h x (List.mem_append_left _ hx)) (by simp) (.inr (by simpa using hhd)) (by simpa using hn)
      have hpos : 1 ≤ NumText.digitsVal (d :: t) := by
        show 1 ≤ t.foldl (fun acc c => acc * 10 + (c - 48)) (0 * 10 + (d - 48))
        have := fold_ge t (0 * 10 + (d - 48))
        omega
      generalize NumText.digitsVal (d :: t) = m at hih hpos
      rw [TL.numL_step (by omega), show (m * 10 + (c - 48)) / 10 = m by omega, show (m * 10 + (c - 48)) % 10 = c - 48 by omega, hih]
      congr 2
      omega
theorem dec_back {w : Tx} (h : ∀ c ∈ w, isDig c = true) (h0 : w ≠ []) (h1 : w.length = 1 ∨ w.head? ≠ some 48) : decT (valT w) = w := by
  refine tn_inj ?_
  rw [tn_dec]
  refine numL_back _ ?_ (by intro h; exact h0 (List.map_eq_nil_iff.mp h)) ?_
  · intro c hc
    obtain ⟨a, h2, rfl⟩ := List.mem_map.mp hc
    have := h a h2
    unfold isDig at this
    rw [Bool.and_eq_true, decide_eq_true_eq, decide_eq_true_eq] at this
    exact this
  · rcases h1 with h1 | h1
    · exact .inl (by rw [tn_len]; exact h1)
    · refine .inr fun h => h1 ?_
      unfold tn at h
      rw [List.head?_map] at h
      obtain ⟨a, h3, h4⟩ := Option.map_eq_some_iff.mp h
      rw [h3]
      congr 1
      exact Fin.ext h4
/-- no number but 0 begins with 0 -/
theorem dec_head (n : Nat) : (decT n).length = 1 ∨ (decT n).head? ≠ some 48 := by
  by_cases h : n < 10
  · left
    rw [← tn_len, tn_dec, TL.numL_lt h]
    rfl
  · right
    intro hh
    have key : ∀ m, 0 < m → (TL.numL m).head? ≠ some 48 := by
      intro m
      induction m using Nat.strongRecOn with
      | _ m ih =>
        intro hm
        by_cases h : m < 10
        · rw [TL.numL_lt h]
          simp; omega
        · rw [TL.numL_step (by omega)]
          have := ih (m / 10) (by omega) (by omega)
          have hne := TL.numL_ne (m / 10)
          cases e : TL.numL (m / 10) with
          | nil => exact absurd e hne
          | cons a b => rw [e] at this; simpa using this
    refine key n (by omega) ?_
    rw [← tn_dec]
    unfold tn
    rw [List.head?_map, hh]
    rfl
/-! one letter -/
def isLow (c : Lt) : Bool := decide (97 ≤ c.val) && decide (c.val ≤ 122)
theorem in_low (c : Lt) : dIn (Sy.l c).D (.str "abcdefghijklmnopqrstuvwxyz") = some (.bl (isLow c)) := by
  rw [every_eq]
  show some (D.bl (decide (c.val ∈ (every26.map Fin.val).toArray.toList))) = _
  congr 2
  revert c
  decide +kernel
theorem notIn_low (c : Lt) : dNotIn (Sy.l c).D (.str "abcdefghijklmnopqrstuvwxyz") = some (.bl (!isLow c)) := by
  have := in_low c
  unfold dIn at this
  unfold dNotIn
  cases h : dInB (Sy.l c).D (.str "abcdefghijklmnopqrstuvwxyz") with
  | none => rw [h] at this; cases this
  | some b => rw [h] at this; cases this; rfl
theorem notIn_dig (c : Lt) : dNotIn (Sy.l c).D (.str "0123456789") = some (.bl (!isDig c)) := by
  have e : D.str "0123456789" = alD [48, 49, 50, 51, 52, 53, 54, 55, 56, 57] := rfl
  rw [e]
  show some (D.bl (!decide (c.val ∈ (([48, 49, 50, 51, 52, 53, 54, 55, 56, 57] : Tx).map Fin.val).toArray.toList))) = _
  congr 3
  revert c
  decide +kernel
theorem in_al (c : Lt) (al : Tx) : dIn (Sy.l c).D (alD al) = some (.bl (decide (c ∈ al))) := by
  show some (D.bl (decide (c.val ∈ (tn al).toArray.toList))) = _
  congr 2
  exact decide_eq_decide.mpr (by simpa using tn_mem)
theorem ge_one (a b : Lt) : dGe (Sy.l a).D (Sy.l b).D = some (.bl (decide (b.val ≤ a.val))) := by
  show some (D.bl (!decide ([a.val] < [b.val]))) = _
  congr 2
  by_cases h : a.val < b.val
  · rw [decide_eq_true (by rw [List.cons_lt_cons_iff]; exact .inl h), decide_eq_false (by omega)]; rfl
  · rw [decide_eq_false (by rw [List.cons_lt_cons_iff]; intro q; rcases q with q | ⟨_, q⟩; exact h q; exact absurd q (by simp)), decide_eq_true (by omega)]; rfl
/-! texts are told apart -/
def Emb.tx : Emb alD 0 where
  p x := .str (SX.S (tn x))
  hp _ := rfl
  ev x y := by
    simp only [PyData.eqv]
    rw [SX.S_beq_eq]
    exact decide_eq_decide.mpr ⟨fun h => tn_inj h, fun h => by rw [h]⟩
  ly x := by
    simp only [PyData.canLay0]
    unfold PyData.strOk
    have := tn_small x
    simp
    intro c hc
    have := this c hc
    omega
  dp _ := by simp [PyData.depth]
end VL
end

section
namespace K43
open PySem PySem.Spec PyProof.Rows L2 VL
local macro_rules
  | `(tactic| trivial) => `(tactic| (simp [VL.envOf, VL.g2, gVar, gLook, gC, gCall, VL.gCons, VL.gNil, VL.gTup, gB, gTru, gBl, gNot, gAnd, gOr, gFn, gIt, gL, gLen, gChain, gIsi, dIsi, D.ty, D.iter, D.items, D.tru, fInt, fLen, fTuple, fMax, dAdd, dSub, dCmp, dLt, dLe, dGt, dGe, dIs, dIsNot, D.isNon, d_mod, d_fdiv, d_mul, d_pow, frzAll, frzCell, fName, *]; done))
variable (A : Ad)
def isV : Sy → Bool
  | .v _ => true
  | .l _ => false
def okSy (al : List Lt) (v : Int) : Sy → Bool
  | .v i => decide (0 ≤ i) && decide (i < v)
  | .l c => decide (c ∈ al)
theorem whole_run (i : Int) : m_is_whole A [.int i] = some (.val (.bl true)) := rfl
theorem is_variable_run (s : Sy) : m_is_variable A [s.D] = some (.val (.bl (isV s))) := by cases s <;> rfl
theorem is_symbol_run (al : List Lt) (v : Int) (s : Sy) : m_is_symbol A [s.D, alD al, .int v] = some (.val (.bl (okSy al v s))) := by
  cases s with
  | v i =>
    refine m_val rfl (wp_seq (wp_iff rfl (wp_next ?_)))
    refine wp_ret (d := .bl (decide (0 ≤ i) && decide (i < v))) ?_ rfl
    have h := whole_run A i
    by_cases h0 : 0 ≤ i <;> simp [VL.envOf, VL.g2, gVar, gLook, gC, gCall, VL.gCons, VL.gNil, gB, gBl, gAnd, gFn, gChain, dCmp, dLe, dLt, frzAll, frzCell, Sy.D, h, h0]
  | l c =>
    refine m_val rfl (wp_seq (wp_ift rfl ?_))
    refine wp_ret (d := .bl (decide (c ∈ al))) ?_ rfl
    have h1 : dEq (.int 1) (.int 1) = some (.bl true) := rfl
    have h2 : dIn (Sy.l c).D (alD al) = some (.bl (decide (c ∈ al))) := by
      show some (D.bl (decide (c.val ∈ (al.map Fin.val).toArray.toList))) = _
      congr 2
      refine decide_eq_decide.mpr ?_
      simp [Fin.ext_iff]
      constructor
      · rintro ⟨a, h1, h2⟩; rw [Fin.ext h2] at h1; exact h1
      · exact fun h => ⟨c, h, rfl⟩
    have h3 : fLen [(Sy.l c).D] = some (.int 1) := rfl
    trivial
def okRule (al : List Lt) (v : Int) (r : Rule) : Bool := (r.1 ++ r.2).all (okSy al v) && r.1.any isV
theorem add_form {f g : Form} (h : f.length + g.length ≤ sizeLine) : dAdd (fD f) (fD g) = some (fD (f ++ g)) := by
  show (if (f.map Sy.D).length + (g.map Sy.D).length ≤ sizeLine then some (D.tup (f.map Sy.D ++ g.map Sy.D)) else none) = _
  rw [if_pos (by simpa using h), ← List.map_append]
theorem is_rule_run (al : List Lt) (v : Int) (l r : Form) (hl : l.length + r.length ≤ 1000000) : m_is_rule A [fD l, fD r, alD al, .int v] = some (.val (.bl (okRule al v (l, r)))) := by
  have key : ∃ d, m_is_rule A [fD l, fD r, alD al, .int v] = some (.val d) ∧ d = .bl (okRule al v (l, r)) := by
    refine m_ex rfl ?_
    have ha : dAdd (fD l) (fD r) = some (fD (l ++ r)) := add_form (by unfold sizeLine; omega)
    refine wp_seq (wp_for (ds := (l ++ r).map Sy.D) (e_items (d := fD (l ++ r)) ha rfl) ?_)
    refine wpl_all (fun done c => done.all (okSy al v) = true ∧ ∃ y, c = [some (.fz (fD l)), some (.fz (fD r)), some (.fz (alD al)), some (.fz (.int v)), y]) ⟨rfl, none, rfl⟩ ?_ ?_
    · rintro done x rest c q ⟨hd, y, rfl⟩
      refine ⟨_, rfl, ?_⟩
      have h := is_symbol_run A al v x
      refine wp_if (b := !okSy al v x) (by trivial) (fun hb => ?_) (fun hb => wp_next ?_)
      · refine wp_ret (d := .bl false) rfl ⟨_, rfl, ?_⟩
        have : (l ++ r).all (okSy al v) = false := by
          rw [q]; simp at hb; simp [hb]
        unfold okRule
        rw [this]; rfl
      · refine ⟨?_, _, rfl⟩
        simp at hb
        simp [hd, hb]
    · rintro c ⟨hd, y, rfl⟩
      refine wp_seq (wp_for (ds := l.map Sy.D) rfl ?_)
      refine wpl_all (fun done c => done.any isV = false ∧ ∃ y, c = [some (.fz (fD l)), some (.fz (fD r)), some (.fz (alD al)), some (.fz (.int v)), y]) ⟨rfl, _, rfl⟩ ?_ ?_
      · rintro done x rest c q ⟨hd2, y, rfl⟩
        refine ⟨_, rfl, ?_⟩
        have h := is_variable_run A x
        refine wp_if (b := isV x) (by trivial) (fun hb => ?_) (fun hb => wp_next ?_)
        · refine wp_ret (d := .bl true) rfl ⟨_, rfl, ?_⟩
          have h2 : l.any isV = true := by rw [q]; simp [hb]
          unfold okRule
          rw [hd, h2]; rfl
        · refine ⟨?_, _, rfl⟩
          simp only [List.any_append, hd2, List.any_cons, hb, List.any_nil, Bool.or_self]
      · rintro c ⟨hd2, y, rfl⟩
        refine wp_ret (d := .bl false) rfl ⟨_, rfl, ?_⟩
        unfold okRule
        rw [hd, hd2]; rfl
  obtain ⟨d, h1, rfl⟩ := key
  exact h1
/-! Grammar -/
theorem check_alphabet_run {d : D} (h : m_is_alphabet A [d] = some (.val (.bl true))) : m_check_alphabet A [d] = some (.val .non) := by
  refine m_val rfl ?_
  exact wp_iff (by trivial) (wp_next rfl)
abbrev gNs : List Str := ["alphabet", "variables", "rules"]
abbrev gD (al : List Lt) (v : Int) (rs : List Rule) : D := .ins A.C_Grammar gNs [alD al, .int v, .tup (rs.map rD)]
theorem Grammar_run (al : List Lt) (v : Int) (rs : List Rule) (ha : m_is_alphabet A [alD al] = some (.val (.bl true))) (hv : 1 ≤ v) (hr : ∀ r ∈ rs, okRule al v r = true ∧ r.1.length + r.2.length ≤ 1000000) (hl : rs.length ≤ 1000000) :
    i_Grammar A [alD al, .int v, .lst (rs.map rD)] = some (gNs, [alD al, .int v, .tup (rs.map rD)]) := by
  refine i_val rfl ?_
  have h1 := check_alphabet_run A ha
  refine wp_seq (wp_drop (d := .non) (e_fn (ds := [alD al]) rfl h1) ?_)
  refine wp_seq (wp_iff (p := gB (VL.g2 dLt (gLook 2) (gC (.int 1)))) ?_ (wp_next ?_))
  · show some (decide (v < 1)) = _
    simp; omega
  refine wp_seq (wp_asgN (ds := []) rfl ?_)
  refine wp_seq (wp_for (ds := enD 0 (rs.map rD)) rfl ?_)
  refine wpl_en (fun done c => ∃ y1 y2 y3 y4, c = [some (.slf A.C_Grammar [] []), some (.fz (alD al)), some (.fz (.int v)), some (.fz (.lst (rs.map rD))), some (.own (done.map rD)), y1, y2, y3, y4]) [] rs _ ⟨none, none, none, none, rfl⟩ ?_ ?_
  · rintro done x rest c q ⟨y1, y2, y3, y4, rfl⟩
    refine ⟨_, rfl, ?_⟩
    obtain ⟨h2, h3⟩ := hr x (by rw [← List.nil_append rs, q]; simp)
    refine wp_seq (wp_par (x := fD x.1) (y := fD x.2) rfl ?_)
    have h4 := is_rule_run A al v x.1 x.2 h3
    have h5 : m_is_rule A [fD x.1, fD x.2, alD al, .int v] = some (.val (.bl true)) := by rw [h4, h2]
    refine wp_seq (wp_iff ?_ (wp_next ?_))
    · exact e_not (e_tru (e_fn (ds := [fD x.1, fD x.2, alD al, .int v]) rfl h5) rfl)
    have hlen : done.length < 1000000 := by
      have := congrArg List.length q
      simp at this
      omega
    refine wp_append (ds := done.map rD) (d := rD x) rfl rfl (by simp; unfold sizeLine; omega) ?_
    exact ⟨_, _, _, _, by rw [List.map_append]; rfl⟩
  · rintro c ⟨y1, y2, y3, y4, rfl⟩
    refine wp_seq (wp_fldS (d := alD al) rfl rfl ⟨by simp, by decide⟩ ?_)
    refine wp_seq (wp_fldS (d := .int v) rfl rfl ⟨by decide, by decide⟩ ?_)
    refine wp_frz (wp_fldS (d := .tup (rs.map rD)) rfl rfl ⟨by decide, by decide⟩ ?_)
    exact ⟨_, rfl, rfl⟩
theorem form_eq (f g : Form) : dEq (fD f) (fD g) = some (.bl (decide (f = g))) := Emb.form.eq (by decide) f g
theorem form_ne (f g : Form) : dNe (fD f) (fD g) = some (.bl (!decide (f = g))) := Emb.form.ne (by decide) f g
abbrev rL (r : Rule) : D := .lst [.lst (r.1.map Sy.D), .lst (r.2.map Sy.D)]
/-- Grammar, of rules handed as lists or as tuples -/
theorem Grammar_runL (al : List Lt) (v : Int) (rs : List Rule) (ha : m_is_alphabet A [alD al] = some (.val (.bl true))) (hv : 1 ≤ v) (hr : ∀ r ∈ rs, okRule al v r = true ∧ r.1.length + r.2.length ≤ 1000000) (hl : rs.length ≤ 1000000) :
    i_Grammar A [alD al, .int v, .lst (rs.map rL)] = some (gNs, [alD al, .int v, .tup (rs.map rD)]) := by
  refine i_val rfl ?_
  have h1 := check_alphabet_run A ha
  refine wp_seq (wp_drop (d := .non) (e_fn (ds := [alD al]) rfl h1) ?_)
  refine wp_seq (wp_iff (p := gB (VL.g2 dLt (gLook 2) (gC (.int 1)))) ?_ (wp_next ?_))
  · show some (decide (v < 1)) = _
    simp; omega
  refine wp_seq (wp_asgN (ds := []) rfl ?_)
  refine wp_seq (wp_for (ds := enD 0 (rs.map rL)) rfl ?_)
  refine wpl_en (fun done c => ∃ y1 y2 y3 y4, c = [some (.slf A.C_Grammar [] []), some (.fz (alD al)), some (.fz (.int v)), some (.fz (.lst (rs.map rL))), some (.own (done.map rD)), y1, y2, y3, y4]) [] rs _ ⟨none, none, none, none, rfl⟩ ?_ ?_
  · rintro done x rest c q ⟨y1, y2, y3, y4, rfl⟩
    refine ⟨_, rfl, ?_⟩
    obtain ⟨h2, h3⟩ := hr x (by rw [← List.nil_append rs, q]; simp)
    refine wp_seq (wp_par (x := fD x.1) (y := fD x.2) rfl ?_)
    have h4 := is_rule_run A al v x.1 x.2 h3
    have h5 : m_is_rule A [fD x.1, fD x.2, alD al, .int v] = some (.val (.bl true)) := by rw [h4, h2]
    refine wp_seq (wp_iff ?_ (wp_next ?_))
    · exact e_not (e_tru (e_fn (ds := [fD x.1, fD x.2, alD al, .int v]) rfl h5) rfl)
    have hlen : done.length < 1000000 := by
      have := congrArg List.length q
      simp at this
      omega
    refine wp_append (ds := done.map rD) (d := rD x) rfl rfl (by simp; unfold sizeLine; omega) ?_
    exact ⟨_, _, _, _, by rw [List.map_append]; rfl⟩
  · rintro c ⟨y1, y2, y3, y4, rfl⟩
    refine wp_seq (wp_fldS (d := alD al) rfl rfl ⟨by simp, by decide⟩ ?_)
    refine wp_seq (wp_fldS (d := .int v) rfl rfl ⟨by decide, by decide⟩ ?_)
    refine wp_frz (wp_fldS (d := .tup (rs.map rD)) rfl rfl ⟨by decide, by decide⟩ ?_)
    exact ⟨_, rfl, rfl⟩
end K43
end

section
namespace K43
open PySem PySem.Spec PyProof.Rows L2 VL
variable (A : Ad)
theorem e_chainLL {c : VL.Env} {ga gb gc : GE} {i j k : Int} (h1 : ga c = some (.int i)) (h2 : gb c = some (.int j)) (h3 : gc c = some (.int k)) : gChain dLe dLe ga gb gc c = some (.bl (decide (i ≤ j) && decide (j ≤ k))) := by
  unfold gChain
  rw [h1, h2]
  show (match some (D.bl (decide (i ≤ j))) with
    | some (.bl true) => (match gc c with | some z => dLe (.int j) z | none => none)
    | some (.bl false) => some (.bl false)
    | _ => none) = _
  by_cases h : i ≤ j
  · rw [decide_eq_true h, h3]; rfl
  · rw [decide_eq_false h]; rfl
def lD (c : Lt) : D := (Sy.l c).D
theorem iter_lD (al : List Lt) : (alD al).iter = some (al.map lD) := by
  rw [iter_al, List.map_map]
  rfl
theorem e_lenX {c : VL.Env} {g : GE} {x : Tx} (h : g c = some (alD x)) (hl : x.length ≤ 2000000) : gCall fLen (VL.gCons g VL.gNil) c = some (.int (x.length : Nat)) :=
  e_call (e_cons h rfl) (len_al (by unfold sizeLine; omega))
/-! numbers -/
def readN (w : Tx) : Option Nat := if (1 ≤ w.length ∧ w.length ≤ 9) ∧ ¬(w.head? = some 48 ∧ 1 < w.length) ∧ w.all isDig = true then some (valT w) else none
def lawN (w : Tx) : Option Nat := if (1 ≤ w.length ∧ w.length ≤ 9) ∧ w.all isDig = true then some (valT w) else none
def optI : Option Nat → D
  | some n => .int (n : Nat)
  | none => .non
theorem all_mid {α : Type} {p : α → Bool} {xs done rest : List α} {x : α} (q : xs = done ++ x :: rest) (h : p x = false) : xs.all p = false := by
  rw [q]; simp [h]
theorem read_number_run (w : Tx) (hl : w.length ≤ 1000000) : m_read_number A [alD w] = some (.val (optI (readN w))) := by
  refine m_val rfl ?_
  have hb0 : gB (gChain dLe dLe (gC (.int 1)) (gCall fLen (VL.gCons (gLook 0) VL.gNil)) (gC (.int 9))) (VL.envOf 2 [alD w]) = some (decide ((1 : Int) ≤ (w.length : Nat)) && decide (((w.length : Nat) : Int) ≤ 9)) := e_B (e_chainLL rfl (e_lenX (x := w) rfl (by omega)) rfl)
  by_cases h1 : 1 ≤ w.length ∧ w.length ≤ 9
  · have hb1 : (decide ((1 : Int) ≤ (w.length : Nat)) && decide (((w.length : Nat) : Int) ≤ 9)) = true := by
      rw [decide_eq_true (by omega), decide_eq_true (by omega)]; rfl
    rw [hb1] at hb0
    obtain ⟨c0, t, rfl⟩ : ∃ c0 t, w = c0 :: t := by
      cases w with
      | nil => simp at h1
      | cons a b => exact ⟨a, b, rfl⟩
    have hx : dIx (alD (c0 :: t)) (.int 0) = some (lD c0) := ix_al (x := c0 :: t) (k := 0) (by unfold sizeLine; omega) rfl
    have heq : dEq (lD c0) (.str "0") = some (.bl (decide (Sy.l c0 = Sy.l 48))) := Emb.sy.eq (by decide) (Sy.l c0) (Sy.l 48)
    refine wp_seq (wp_if (b := decide (Sy.l c0 = Sy.l 48) && decide ((1 : Int) < ((c0 :: t).length : Nat))) (e_or (a := false) (b := decide (Sy.l c0 = Sy.l 48) && decide ((1 : Int) < ((c0 :: t).length : Nat))) (e_not (a := true) hb0) fun _ => e_and (e_B (e_2 (e_2 rfl rfl hx) rfl heq)) fun _ => e_B (e_2 (e_lenX (x := c0 :: t) rfl (by omega)) rfl rfl)) (fun hb => ?_) (fun hb => wp_next ?_))
    · refine wp_ret (d := .non) rfl ?_
      rw [Bool.and_eq_true, decide_eq_true_eq, decide_eq_true_eq] at hb
      have hc : c0 = 48 := by injection hb.1
      unfold readN
      rw [if_neg (fun h => h.2.1 ⟨by rw [hc]; rfl, by have := hb.2; omega⟩)]
      rfl
    · have hnz : ¬((c0 :: t).head? = some 48 ∧ 1 < (c0 :: t).length) := by
        rintro ⟨q1, q2⟩
        have hc : c0 = 48 := by simpa using q1
        rw [hc, decide_eq_true rfl, Bool.true_and] at hb
        have := of_decide_eq_false hb
        simp at this q2
        omega
      refine wp_seq (wp_for (ds := (c0 :: t).map lD) (e_items rfl (iter_lD _)) ?_)
      refine wpl_all (fun done c => done.all isDig = true ∧ ∃ y, c = [some (.fz (alD (c0 :: t))), y]) ⟨rfl, none, rfl⟩ ?_ ?_
      · rintro done x rest c q ⟨hd, y, rfl⟩
        refine ⟨_, rfl, ?_⟩
        refine wp_if (b := !isDig x) (e_B (e_2 (x := lD x) rfl rfl (notIn_dig x))) (fun hb => ?_) (fun hb => wp_next ⟨?_, _, rfl⟩)
        · refine wp_ret (d := .non) rfl ?_
          unfold readN
          have hx : isDig x = false := by simpa using hb
          rw [if_neg (fun h => by rw [all_mid q hx] at h; cases h.2.2)]
          rfl
        · simp at hb
          simp [hd, hb]
      · rintro c ⟨hd, y, rfl⟩
        have hdig : ∀ c ∈ c0 :: t, isDig c = true := List.all_eq_true.mp hd
        refine wp_ret (d := .int (valT (c0 :: t) : Nat)) (e_call (e_cons rfl rfl) (int_txt hdig (by simp) (by omega))) ?_
        unfold readN
        rw [if_pos ⟨h1, hnz, hd⟩]
        rfl
  · have hb1 : (decide ((1 : Int) ≤ (w.length : Nat)) && decide (((w.length : Nat) : Int) ≤ 9)) = false := by
      rw [Bool.eq_false_iff, Ne, Bool.and_eq_true, decide_eq_true_eq, decide_eq_true_eq]
      intro q; exact h1 ⟨by omega, by omega⟩
    rw [hb1] at hb0
    refine wp_seq (wp_ift (p := gOr _ _) ?_ (wp_ret (d := .non) rfl ?_))
    · have := e_or (q := (gAnd (gB (g2 dEq (g2 dIx (gLook 0) (gC (.int 0))) (gC (.str "0")))) (gB (g2 dGt (gCall fLen (VL.gCons (gLook 0) VL.gNil)) (gC (.int 1)))))) (a := true) (b := true) (e_not (a := false) hb0) (fun h => by cases h)
      exact this
    · unfold readN
      rw [if_neg (fun h => h1 h.1)]
      rfl
theorem law_number_run (w : Tx) (hl : w.length ≤ 1000000) : m__law_number A [alD w] = some (.val (optI (lawN w))) := by
  refine m_val rfl ?_
  have ll : ∀ c : VL.Env, gLook 0 c = some (alD w) → gCall fLen (VL.gCons (gLook 0) VL.gNil) c = some (.int (w.length : Nat)) := fun c h => e_lenX h (by omega)
  refine wp_seq (wp_if (b := decide (((w.length : Nat) : Int) < 1) || decide ((9 : Int) < (w.length : Nat))) (e_or (e_B (e_2 (ll _ rfl) rfl rfl)) fun _ => e_B (e_2 (ll _ rfl) rfl rfl)) (fun hb => ?_) (fun hb => wp_next ?_))
  · refine wp_ret (d := .non) rfl ?_
    unfold lawN
    rw [if_neg (fun h => by simp at hb; omega)]
    rfl
  · simp at hb
    have h1 : 1 ≤ w.length ∧ w.length ≤ 9 := ⟨by omega, by omega⟩
    refine wp_seq (wp_for (ds := rgD 0 w.length) (e_rg1 (n := (w.length : Nat)) (e_cons (ll _ rfl) rfl) (by omega) (by omega)) ?_)
    refine wpl_rg (fun k c => (w.take k).all isDig = true ∧ ∃ y, c = [some (.fz (alD w)), y]) ⟨by simp, none, rfl⟩ ?_ ?_
    · rintro k c hk ⟨hd, y, rfl⟩
      have hx : dIx (alD w) (.int (k : Nat)) = some (lD w[k]) := ix_al (by unfold sizeLine; omega) (List.getElem?_eq_getElem hk)
      refine ⟨_, rfl, ?_⟩
      refine wp_if (b := !isDig w[k]) (e_B (e_2 (e_2 rfl rfl hx) rfl (notIn_dig _))) (fun hb => ?_) (fun hb => wp_next ⟨?_, _, rfl⟩)
      · refine wp_ret (d := .non) rfl ?_
        unfold lawN
        rw [if_neg (fun h => by
          have := List.all_eq_true.mp h.2 w[k] (List.getElem_mem _)
          rw [this] at hb; cases hb)]
        rfl
      · rw [List.take_succ, List.getElem?_eq_getElem hk, List.all_append, hd]
        simpa using hb
    · rintro c ⟨hd, y, rfl⟩
      rw [List.take_length] at hd
      refine wp_ret (d := .int (valT w : Nat)) (e_call (e_cons rfl rfl) (int_txt (List.all_eq_true.mp hd) (by intro h; rw [h] at h1; simp at h1) (by omega))) ?_
      unfold lawN
      rw [if_pos ⟨h1, hd⟩]
      rfl
theorem readN_dec {n : Nat} (h : n < 10 ^ 9) : readN (decT n) = some n ∧ lawN (decT n) = some n := by
  have h1 : 1 ≤ (decT n).length := List.length_pos_iff.mpr (dec_ne n)
  have h2 := dec_len (n := n) (k := 9) (by decide) h
  have h3 : (decT n).all isDig = true := List.all_eq_true.mpr (dec_dig n)
  have h4 := dec_head n
  unfold readN lawN
  rw [if_pos ⟨⟨h1, h2⟩, fun q => by rcases h4 with h4 | h4; omega; exact h4 q.1, h3⟩, if_pos ⟨⟨h1, h2⟩, h3⟩, val_dec]
  exact ⟨rfl, rfl⟩
theorem readN_back {w : Tx} {n : Nat} (h : readN w = some n) : decT n = w ∧ n < 10 ^ 9 ∧ w ≠ [] := by
  unfold readN at h
  split at h
  · rename_i q
    cases h
    have hw : w ≠ [] := by intro e; rw [e] at q; simp at q
    refine ⟨dec_back (List.all_eq_true.mp q.2.2) hw ?_, ?_, hw⟩
    · by_cases h1 : w.length = 1
      · exact .inl h1
      · exact .inr fun e => q.2.1 ⟨e, by have := q.1; omega⟩
    · have hd := List.all_eq_true.mp q.2.2
      have hl := q.1.2
      have key : ∀ (l : List Nat) (a : Nat), (∀ c ∈ l, c ≤ 57) → l.foldl (fun acc c => acc * 10 + (c - 48)) a < (a + 1) * 10 ^ l.length := by
        intro l
        induction l with
        | nil => intro a _; simp
        | cons c l ih =>
          intro a hc
          have h1 := ih (a * 10 + (c - 48)) fun d hd => hc d (List.mem_cons_of_mem _ hd)
          have h2 := hc c (List.mem_cons_self ..)
          rw [List.foldl_cons, List.length_cons, Nat.pow_succ]
          have h3 : (a * 10 + (c - 48) + 1) * 10 ^ l.length ≤ ((a + 1) * 10) * 10 ^ l.length := Nat.mul_le_mul_right _ (by omega)
          have h4 : (a + 1) * (10 ^ l.length * 10) = ((a + 1) * 10) * 10 ^ l.length := by rw [Nat.mul_comm (10 ^ l.length) 10, Nat.mul_assoc]
          omega
      have h5 := key (tn w) 0 (by
        intro c hc
        obtain ⟨a, h1, rfl⟩ := List.mem_map.mp hc
        have := hd a h1
        unfold isDig at this
        rw [Bool.and_eq_true, decide_eq_true_eq, decide_eq_true_eq] at this
        exact this.2)
      have h6 : valT w < 10 ^ (tn w).length := by
        rw [Nat.zero_add, Nat.one_mul] at h5
        exact h5
      rw [tn_len] at h6
      exact Nat.lt_of_lt_of_le h6 (Nat.pow_le_pow_right (by decide) hl)
  · cases h
/-! sides -/
def wordOf : Sy → Tx
  | .l c => [c]
  | .v i => decT i.toNat
def sideT (f : Form) : Tx := if f = [] then [46] else joinT [32] (f.map wordOf)
def NN (f : Form) : Prop := ∀ s ∈ f, ∀ i, s = Sy.v i → 0 ≤ i ∧ i < 2 ^ 100
theorem str_sy {s : Sy} (h : ∀ i, s = Sy.v i → 0 ≤ i ∧ i < 2 ^ 100) : fStr [s.D] = some (alD (wordOf s)) := by
  cases s with
  | l c => rfl
  | v i =>
    obtain ⟨h0, h1⟩ := h i rfl
    obtain ⟨n, rfl⟩ := Int.eq_ofNat_of_zero_le h0
    exact str_num n (by omega)
theorem side_sum {f : Form} (h0 : f ≠ []) (hl : (sideT f).length ≤ 1000000) : ((f.map wordOf).map List.length).sum + (f.map wordOf).length * ([32] : Tx).length ≤ 16777216 ∧ f.length ≤ 1000001 := by
  have h := joinT_len2 [32] (ys := f.map wordOf) (by simpa using h0)
  unfold sideT at hl
  rw [if_neg h0] at hl
  simp only [List.length_map, List.length_cons, List.length_nil] at h ⊢
  omega
theorem side_body {c : VL.Env} {f : Form} (hf : NN f) (h0 : f ≠ []) (hl : (sideT f).length ≤ 1000000) (h : gVar 0 c = some (fD f)) (hj : ∀ d, ∃ c1, fName 1 d (wipeC c [1]) = some c1 ∧ gLook 1 c1 = some d) :
    g2 dJoin (gC (.str " ")) (gL (gLc (gIt (gVar 0)) (fName 1) gYes (gCall fStr (VL.gCons (gLook 1) VL.gNil)) [1])) c = some (alD (sideT f)) := by
  obtain ⟨h1, h2⟩ := side_sum h0 hl
  have hs : 16000000 ≤ sizeLine := by unfold sizeLine; omega
  refine e_2 (x := alD [32]) (y := .lst ((f.map wordOf).map alD)) rfl (e_lst ?_) ?_
  · rw [List.map_map]
    refine e_lc (e := Sy.D) (h := alD ∘ wordOf) (xs := f) (e_items h rfl) (by omega) fun s hm => ?_
    obtain ⟨c1, q1, q2⟩ := hj s.D
    exact ⟨c1, q1, e_call (e_cons q2 rfl) (str_sy (hf s hm))⟩
  · rw [dJoin_sep _ _ h1]
    unfold sideT
    rw [if_neg h0]
theorem lenF {c : VL.Env} {g : GE} {f : Form} (h : g c = some (fD f)) : gCall fLen (VL.gCons g VL.gNil) c = some (.int (f.length : Nat)) := e_lenT (e := Sy.D) (xs := f) h
theorem format_side_run (f : Form) (hf : NN f) (hl : (sideT f).length ≤ 1000000) : m_format_side A [fD f] = some (.val (alD (sideT f))) := by
  refine m_val rfl ?_
  refine wp_seq (wp_if (b := decide (((f.length : Nat) : Int) = 0)) (e_B (e_2 (lenF (f := f) rfl) rfl (Emb.int.eq (by decide) _ _))) (fun hb => ?_) (fun hb => wp_next ?_))
  · have : f = [] := by simpa using hb
    subst this
    exact wp_ret (d := alD [46]) rfl rfl
  · have h0 : f ≠ [] := by simpa using hb
    exact wp_ret (d := alD (sideT f)) (side_body hf h0 hl rfl fun d => ⟨_, rfl, rfl⟩) rfl
theorem law_side_run (f : Form) (hf : NN f) (hl : (sideT f).length ≤ 1000000) : m__law_side A [fD f] = some (.val (alD (sideT f))) := by
  refine m_val rfl ?_
  refine wp_seq (wp_if (b := decide (((f.length : Nat) : Int) = 0)) (e_B (e_2 (lenF (f := f) rfl) rfl (Emb.int.eq (by decide) _ _))) (fun hb => ?_) (fun hb => wp_next ?_))
  · have : f = [] := by simpa using hb
    subst this
    exact wp_ret (d := alD [46]) rfl rfl
  · have h0 : f ≠ [] := by simpa using hb
    exact wp_ret (d := alD (sideT f)) (side_body hf h0 hl rfl fun d => ⟨_, rfl, rfl⟩) rfl
/-! a grammar's text -/
def ruleT (r : Rule) : Tx := sideT r.1 ++ arrow ++ sideT r.2
def tG : Tx := [103, 114, 97, 109, 109, 97, 114, 32]
def tC : Tx := [32, 58, 32]
def headT (al : Tx) (v : Nat) : Tx := tG ++ al ++ tC ++ decT v
def linesT (al : Tx) (v : Nat) (rs : List Rule) : List Tx := headT al v :: rs.map ruleT
def gramT (al : Tx) (v : Nat) (rs : List Rule) : Tx := joinT [10] (linesT al v rs)
theorem lines_le {al : Tx} {v : Nat} {rs : List Rule} (hl : (gramT al v rs).length ≤ 1000000) : ((linesT al v rs).map List.length).sum + (linesT al v rs).length * ([10] : Tx).length ≤ 1000001 ∧ (∀ p ∈ linesT al v rs, p.length ≤ 1000000) ∧ rs.length ≤ 1000000 := by
  have h := joinT_len2 [10] (ys := linesT al v rs) (by simp [linesT])
  have h2 : (joinT [10] (linesT al v rs)).length ≤ 1000000 := hl
  have e1 : (linesT al v rs).length = rs.length + 1 := by simp [linesT]
  simp only [List.length_cons, List.length_nil] at h
  refine ⟨by simp only [List.length_cons, List.length_nil]; omega, fun p hp => ?_, by omega⟩
  have := le_sumL hp
  have h3 : 1 ≤ (linesT al v rs).length := by omega
  omega
theorem rule_le {r : Rule} (h : (ruleT r).length ≤ 1000000) : (sideT r.1).length ≤ 1000000 ∧ (sideT r.2).length ≤ 1000000 := by
  unfold ruleT at h
  simp only [List.length_append] at h
  omega
theorem gJs_cons {g : GE} {gs : List GE} {c : VL.Env} {acc y : Tx} (h : g c = some (alD y)) (hl : acc.length + y.length ≤ 2000000) : gJs (g :: gs) (SX.S (tn acc)) c = gJs gs (SX.S (tn (acc ++ y))) c := by
  have hs : 16000000 ≤ sizeLine := by unfold sizeLine; omega
  show (match g c with | some (.str y) => if (SX.S (tn acc) ++ y).length ≤ sizeLine then gJs gs (SX.S (tn acc) ++ y) c else none | _ => none) = _
  rw [h]
  show (if (SX.S (tn acc) ++ SX.S (tn y)).length ≤ sizeLine then gJs gs (SX.S (tn acc) ++ SX.S (tn y)) c else none) = _
  rw [SX.S_cat, ← tn_app, if_pos (by rw [SX.S_len, tn_len, List.length_append]; omega)]
theorem fmt_al {g : GE} {c : VL.Env} {y : Tx} (h : g c = some (alD y)) (hl : y.length ≤ 2000000) : gFmt g c = some (alD y) := by
  unfold gFmt
  rw [h]
  show (if (SX.S (tn y)).length ≤ sizeLine then _ else _) = _
  rw [if_pos (by rw [SX.S_len, tn_len]; unfold sizeLine; omega)]
  rfl
theorem fmt_num {g : GE} {c : VL.Env} {n : Nat} (h : g c = some (.int (n : Nat))) (hn : n < 2 ^ 100) : gFmt g c = some (alD (decT n)) := by
  have := str_num n hn
  unfold gFmt
  rw [h]
  exact this
structure Fit (al : Tx) (v : Nat) (rs : List Rule) : Prop where
  vlt : v < 2 ^ 100
  nn : ∀ r ∈ rs, NN r.1 ∧ NN r.2
  len : (gramT al v rs).length ≤ 1000000
theorem add2 {x y : Tx} (h : x.length + y.length ≤ 3000000) : dAdd (alD x) (alD y) = some (alD (x ++ y)) := add_al (by unfold sizeLine; omega)
theorem head_le {al : Tx} {v : Nat} (h : (headT al v).length ≤ 1000000) : al.length ≤ 1000000 ∧ (decT v).length ≤ 1000000 := by
  unfold headT at h
  simp only [List.length_append] at h
  omega
theorem format_run (al : Tx) (v : Nat) (rs : List Rule) (ft : Fit al v rs) : m_format_grammar A [gD A al v rs] = some (.val (alD (gramT al v rs))) := by
  have hs : 16000000 ≤ sizeLine := by unfold sizeLine; omega
  obtain ⟨l1, l2, l3⟩ := lines_le ft.len
  obtain ⟨b1, b2⟩ := head_le (l2 (headT al v) (by simp [linesT]))
  have hb := l2 (headT al v) (by simp [linesT])
  refine m_val rfl ?_
  refine wp_seq (wp_asgN (ds := [headT al v].map alD) (e_ln (e_cons ?_ rfl) (by show 1 ≤ sizeLine; omega)) ?_)
  · have e1 : gFld A.C_Grammar "alphabet" (gLook 0) (VL.envOf 4 [gD A al v rs]) = some (alD al) := e_fld rfl rfl
    have e2 : gFld A.C_Grammar "variables" (gLook 0) (VL.envOf 4 [gD A al v rs]) = some (.int (v : Nat)) := e_fld rfl rfl
    unfold headT at hb
    simp only [List.length_append] at hb
    show (gJs _ (SX.S (tn [])) _).map D.str = _
    rw [gJs_cons (y := tG) rfl (by simp; omega), gJs_cons (y := al) (fmt_al e1 (by omega)) (by simp; omega), gJs_cons (y := tC) rfl (by simp; omega), gJs_cons (y := decT v) (fmt_num e2 ft.vlt) (by simp; omega)]
    rfl
  · refine wp_seq (wp_for (ds := rs.map rD) (e_items (e_fld rfl rfl) rfl) ?_)
    refine wpl_all (fun done c => ∃ y2 y3, c = [some (.fz (gD A al v rs)), some (.own ((linesT al v done).map alD)), y2, y3]) ⟨none, none, rfl⟩ ?_ ?_
    · rintro done r rest c q ⟨y2, y3, rfl⟩
      have hr : r ∈ rs := by rw [q]; simp
      have hrl := l2 (ruleT r) (by simp only [linesT]; exact List.mem_cons_of_mem _ (List.mem_map.mpr ⟨r, hr, rfl⟩))
      obtain ⟨s1, s2⟩ := rule_le hrl
      have hdl : done.length < rs.length := by rw [q]; simp
      refine ⟨[some (.fz (gD A al v rs)), some (.own ((linesT al v done).map alD)), some (.fz (fD r.1)), some (.fz (fD r.2))], rfl, ?_⟩
      unfold ruleT at hrl
      simp only [List.length_append] at hrl
      refine wp_append (ds := (linesT al v done).map alD) (d := alD (ruleT r)) rfl (e_2 (e_2 (e_fn (ds := [fD r.1]) rfl (format_side_run A r.1 (ft.nn r hr).1 s1)) (y := alD arrow) rfl (add2 (by omega))) (e_fn (ds := [fD r.2]) rfl (format_side_run A r.2 (ft.nn r hr).2 s2)) (add2 (by simp only [List.length_append]; omega))) (by simp [linesT]; omega) ?_
      exact ⟨some (.fz (fD r.1)), some (.fz (fD r.2)), by simp [linesT]⟩
    · rintro c ⟨y2, y3, rfl⟩
      exact wp_ret (d := alD (gramT al v rs)) (e_2 (x := alD [10]) (y := .lst ((linesT al v rs).map alD)) rfl rfl (dJoin_sep [10] _ (by omega))) rfl
theorem written_run (al : Tx) (v : Nat) (rs : List Rule) (ft : Fit al v rs) : m__law_written A [alD al, .int (v : Nat), .lst (rs.map rD)] = some (.val (alD (gramT al v rs))) := by
  have hs : 16000000 ≤ sizeLine := by unfold sizeLine; omega
  obtain ⟨l1, l2, l3⟩ := lines_le ft.len
  have hb := l2 (headT al v) (by simp [linesT])
  refine m_val rfl ?_
  refine wp_seq (wp_asgN (ds := [headT al v].map alD) (e_ln (e_cons ?_ rfl) (by show 1 ≤ sizeLine; omega)) ?_)
  · unfold headT at hb
    simp only [List.length_append] at hb
    exact e_2 (x := alD (tG ++ al ++ tC)) (e_2 (x := alD (tG ++ al)) (e_2 (x := alD tG) rfl rfl (add2 (by omega))) (y := alD tC) rfl (add2 (by simp only [List.length_append]; omega))) (e_call (e_cons rfl rfl) (str_num v ft.vlt)) (add2 (by simp only [List.length_append]; omega))
  · refine wp_seq (wp_for (ds := rs.map rD) rfl ?_)
    refine wpl_all (fun done c => ∃ y4, c = [some (.fz (alD al)), some (.fz (.int (v : Nat))), some (.fz (.lst (rs.map rD))), some (.own ((linesT al v done).map alD)), y4]) ⟨none, rfl⟩ ?_ ?_
    · rintro done r rest c q ⟨y4, rfl⟩
      have hr : r ∈ rs := by rw [q]; simp
      have hrl := l2 (ruleT r) (by simp only [linesT]; exact List.mem_cons_of_mem _ (List.mem_map.mpr ⟨r, hr, rfl⟩))
      obtain ⟨s1, s2⟩ := rule_le hrl
      have hdl : done.length < rs.length := by rw [q]; simp
      refine ⟨_, rfl, ?_⟩
      have i0 : ∀ c : VL.Env, gLook 4 c = some (rD r) → VL.g2 dIx (gLook 4) (gC (.int 0)) c = some (fD r.1) := fun c h => e_2 h rfl (ix_map (e := fD) (xs := [r.1, r.2]) (k := 0) rfl rfl)
      have i1 : ∀ c : VL.Env, gLook 4 c = some (rD r) → VL.g2 dIx (gLook 4) (gC (.int 1)) c = some (fD r.2) := fun c h => e_2 h rfl (ix_map (e := fD) (xs := [r.1, r.2]) (k := 1) rfl rfl)
      unfold ruleT at hrl
      simp only [List.length_append] at hrl
      refine wp_append (ds := (linesT al v done).map alD) (d := alD (ruleT r)) rfl (e_2 (e_2 (e_fn (ds := [fD r.1]) (e_cons (i0 _ rfl) rfl) (law_side_run A r.1 (ft.nn r hr).1 s1)) (y := alD arrow) rfl (add2 (by omega))) (e_fn (ds := [fD r.2]) (e_cons (i1 _ rfl) rfl) (law_side_run A r.2 (ft.nn r hr).2 s2)) (add2 (by simp only [List.length_append]; omega))) (by simp [linesT]; omega) ?_
      exact ⟨some (.fz (rD r)), by simp [linesT]⟩
    · rintro c ⟨y4, rfl⟩
      exact wp_ret (d := alD (gramT al v rs)) (e_2 (x := alD [10]) (y := .lst ((linesT al v rs).map alD)) rfl rfl (dJoin_sep [10] _ (by omega))) rfl
end K43
end

section
namespace K43
open PySem PySem.Spec PyProof.Rows L2 VL
variable (A : Ad)
/-! all of a list, or none -/
def mapO {α β : Type} (f : α → Option β) : List α → Option (List β)
  | [] => some []
  | x :: xs => match f x with
    | some y => match mapO f xs with
      | some ys => some (y :: ys)
      | none => none
    | none => none
theorem mapO_cons {α β : Type} {f : α → Option β} {x : α} {xs : List α} : mapO f (x :: xs) = match f x with
    | some y => match mapO f xs with
      | some ys => some (y :: ys)
      | none => none
    | none => none := rfl
theorem mapO_app {α β : Type} {f : α → Option β} : ∀ {xs : List α} {ys : List β}, mapO f xs = some ys → ∀ (x : α) (y : β), f x = some y → mapO f (xs ++ [x]) = some (ys ++ [y])
  | [], ys, h, x, y, hy => by
    cases h
    show (match f x with | some y => _ | none => none) = _
    rw [hy]; rfl
  | a :: xs, ys, h, x, y, hy => by
    unfold mapO at h
    split at h
    · rename_i b hb
      split at h
      · rename_i zs hz
        cases h
        rw [List.cons_append, mapO_cons, hb]
        simp only []
        rw [mapO_app hz x y hy]; rfl
      · cases h
    · cases h
theorem mapO_none {α β : Type} {f : α → Option β} : ∀ (xs : List α) (x : α) (rest : List α), f x = none → mapO f (xs ++ x :: rest) = none
  | [], x, rest, h => by
    show (match f x with | some y => _ | none => none) = _
    rw [h]
  | a :: xs, x, rest, h => by
    rw [List.cons_append, mapO_cons, mapO_none xs x rest h]
    cases f a <;> rfl
theorem mapO_len {α β : Type} {f : α → Option β} : ∀ {xs : List α} {ys : List β}, mapO f xs = some ys → ys.length = xs.length
  | [], ys, h => by cases h; rfl
  | a :: xs, ys, h => by
    unfold mapO at h
    split at h
    · split at h
      · rename_i zs hz
        cases h
        rw [List.length_cons, List.length_cons, mapO_len hz]
      · cases h
    · cases h
theorem mapO_of {α β : Type} {f : α → Option β} {g : β → α} : ∀ {ys : List β}, (∀ y ∈ ys, f (g y) = some y) → mapO f (ys.map g) = some ys
  | [], _ => rfl
  | y :: ys, h => by
    show (match f (g y) with | some y => _ | none => none) = _
    rw [h y (List.mem_cons_self ..), mapO_of fun z hz => h z (List.mem_cons_of_mem _ hz)]
theorem mapO_back {α β : Type} {f : α → Option β} {g : β → α} (h : ∀ x y, f x = some y → g y = x) : ∀ {xs : List α} {ys : List β}, mapO f xs = some ys → ys.map g = xs
  | [], ys, e => by cases e; rfl
  | a :: xs, ys, e => by
    unfold mapO at e
    split at e
    · rename_i b hb
      split at e
      · rename_i zs hz
        cases e
        rw [List.map_cons, h a b hb, mapO_back h hz]
      · cases e
    · cases e
theorem mapO_all {α β : Type} {f : α → Option β} {S : β → Prop} (h : ∀ x y, f x = some y → S y) : ∀ {xs : List α} {ys : List β}, mapO f xs = some ys → ∀ y ∈ ys, S y
  | [], ys, e => by cases e; simp
  | a :: xs, ys, e => by
    unfold mapO at e
    split at e
    · rename_i b hb
      split at e
      · rename_i zs hz
        cases e
        intro y hy
        rcases List.mem_cons.mp hy with q | q
        · rw [q]; exact h a b hb
        · exact mapO_all h hz y q
      · cases e
    · cases e
def optF : Option Form → D
  | some f => fD f
  | none => .non
def optR : Option Rule → D
  | some r => rD r
  | none => .non
def optS : Option Sy → D
  | some s => s.D
  | none => .non
theorem is_optI (o : Option Nat) : dIs (optI o) .non = some (.bl o.isNone) := by cases o <;> rfl
theorem is_optF (o : Option Form) : dIs (optF o) .non = some (.bl o.isNone) := by cases o <;> rfl
theorem is_optR (o : Option Rule) : dIs (optR o) .non = some (.bl o.isNone) := by cases o <;> rfl
theorem is_optS (o : Option Sy) : dIs (optS o) .non = some (.bl o.isNone) := by
  cases o with
  | none => rfl
  | some s => cases s <;> rfl
/-! the program's words -/
def readW (w : Tx) : Option Sy := match w with
  | [c] => if isLow c = true then some (.l c) else (readN [c]).map fun n => .v (n : Nat)
  | w => (readN w).map fun n => .v (n : Nat)
theorem readW_long {w : Tx} (h : w.length ≠ 1) : readW w = (readN w).map fun n => .v (n : Nat) := by
  unfold readW
  split
  · exact absurd rfl h
  · rfl
theorem readW_back {w : Tx} {s : Sy} (h : readW w = some s) : wordOf s = w := by
  have num : ∀ w : Tx, (readN w).map (fun n => Sy.v (n : Nat)) = some s → wordOf s = w := by
    intro w h
    obtain ⟨n, h1, rfl⟩ := Option.map_eq_some_iff.mp h
    exact (readN_back h1).1
  unfold readW at h
  split at h
  · split at h
    · cases h; rfl
    · exact num _ h
  · exact num _ h
theorem dig_not_low {c : Lt} (h : isDig c = true) : isLow c = false := by
  unfold isDig at h
  rw [Bool.and_eq_true, decide_eq_true_eq, decide_eq_true_eq] at h
  unfold isLow
  rw [decide_eq_false (by omega)]; rfl
theorem readW_num {n : Nat} (h : n < 10 ^ 9) : readW (decT n) = some (.v (n : Nat)) := by
  have h1 := (readN_dec h).1
  unfold readW
  split
  · rename_i c hc
    have : isDig c = true := dec_dig n c (by rw [hc]; simp)
    rw [dig_not_low this, if_neg (by simp), ← hc, h1]
    rfl
  · rw [h1]; rfl
theorem read_side_run (ws : List Tx) (hn : ws.length ≤ 1000000) (hl : ∀ w ∈ ws, w.length ≤ 1000000) : m_read_side A [.lst (ws.map alD)] = some (.val (optF (mapO readW ws))) := by
  have hs : 16000000 ≤ sizeLine := by unfold sizeLine; omega
  refine m_val rfl ?_
  refine wp_seq (wp_asgN (ds := ([] : Form).map Sy.D) rfl ?_)
  refine wp_seq (wp_for (ds := ws.map alD) rfl ?_)
  refine wpl_all (fun done c => ∃ (acc : Form) (y2 y3 : Option Cell), mapO readW done = some acc ∧ c = [some (.fz (.lst (ws.map alD))), some (.own (acc.map Sy.D)), y2, y3]) ⟨[], none, none, rfl, rfl⟩ ?_ ?_
  · rintro done w rest c q ⟨acc, y2, y3, hd, rfl⟩
    have hw : w.length ≤ 1000000 := hl w (by rw [q]; simp)
    have hacc := mapO_len hd
    have hdl : done.length < 1000000 := by have := congrArg List.length q; simp at this; omega
    refine ⟨_, rfl, ?_⟩
    -- a number, or nothing
    have num : readW w = (readN w).map (fun n => Sy.v (n : Nat)) → Wp (gSeq (gAsg (gFn (m_read_number A) (VL.gCons (gVar 2) VL.gNil)) (fName 3))
        (gSeq (gIf (gB (g2 dIs (gLook 3) (gC .non))) (gRet (gC .non)) gNext) (gAppend 1 (gVar 3)))) [some (.fz (.lst (ws.map alD))), some (.own (acc.map Sy.D)), some (.fz (alD w)), y3]
        (Turn (fun c => ∃ (acc : Form) (y2 y3 : Option Cell), mapO readW (done ++ [w]) = some acc ∧ c = [some (.fz (.lst (ws.map alD))), some (.own (acc.map Sy.D)), y2, y3]) (WpK (gRet (gCall fTuple (VL.gCons (gVar 1) VL.gNil))) fun o => outRes (some o) = some (.val (optF (mapO readW ws))))) := by
      intro hr
      refine wp_seq (wp_set (d := optI (readN w)) (e_fn (ds := [alD w]) rfl (read_number_run A w hw)) ?_)
      refine wp_seq (wp_if (b := (readN w).isNone) (e_B (e_2 rfl rfl (is_optI _))) (fun hb => ?_) (fun hb => wp_next ?_))
      · refine wp_ret (d := .non) rfl ?_
        have h0 : readN w = none := by simpa using hb
        rw [h0] at hr
        rw [q, mapO_none done w rest hr]
        rfl
      · cases h0 : readN w with
        | none => rw [h0] at hb; cases hb
        | some n =>
          rw [h0] at hr
          refine wp_append (ds := acc.map Sy.D) (d := (Sy.v (n : Nat)).D) rfl rfl (by simp; omega) ?_
          exact ⟨acc ++ [.v (n : Nat)], _, _, mapO_app hd w _ (show readW w = some (.v (n : Nat)) from hr), by rw [List.map_append]; rfl⟩
    by_cases h1 : w.length = 1
    · obtain ⟨c0, rfl⟩ : ∃ c0, w = [c0] := List.length_eq_one_iff.mp h1
      refine wp_if (b := true && isLow c0) (e_and (e_B (e_2 (e_lenX (x := [c0]) rfl (by simp)) rfl (Emb.int.eq (by decide) _ _))) fun _ => e_B (e_2 (x := lD c0) rfl rfl (in_low c0))) (fun hb => ?_) (fun hb => num ?_)
      · have hlow : isLow c0 = true := by simpa using hb
        refine wp_append (ds := acc.map Sy.D) (d := (Sy.l c0).D) rfl rfl (by simp; omega) ?_
        refine ⟨acc ++ [.l c0], _, _, mapO_app hd _ _ ?_, by rw [List.map_append]; rfl⟩
        show (if isLow c0 = true then some (Sy.l c0) else _) = _
        rw [if_pos hlow]
      · have hlow : isLow c0 = false := by simpa using hb
        show (if isLow c0 = true then some (Sy.l c0) else _) = _
        rw [hlow]
        rfl
    · refine wp_iff ?_ (num (readW_long h1))
      have := e_and (p := gB (g2 dEq (gCall fLen (VL.gCons (gLook 2) VL.gNil)) (gC (.int 1)))) (q := gB (g2 dIn (gLook 2) (gC (.str "abcdefghijklmnopqrstuvwxyz")))) (c := [some (.fz (.lst (ws.map alD))), some (.own (acc.map Sy.D)), some (.fz (alD w)), y3]) (a := false) (b := false) (e_B (e_2 (e_lenX (x := w) rfl (by omega)) rfl (by rw [Emb.int.eq (by decide), decide_eq_false (by omega)]))) (fun h => by cases h)
      exact this
  · rintro c ⟨acc, y2, y3, hd, rfl⟩
    refine wp_ret (d := fD acc) rfl ?_
    rw [hd]
    rfl
/-! count and index of texts -/
def isW (t w : Tx) : Bool := decide (w = t)
theorem eqV_tx (w t : Tx) : eqV (alD w).toV (alD t).toV = isW t w := by
  show (SX.S (tn w) == SX.S (tn t)) = _
  rw [SX.S_beq_eq]
  exact decide_eq_decide.mpr ⟨fun h => tn_inj h, fun h => by rw [h]⟩
theorem scal_tx (ws : List Tx) : (ws.map alD).all D.scal = true := by
  rw [List.all_eq_true]
  intro x hx
  obtain ⟨w, _, rfl⟩ := List.mem_map.mp hx
  rfl
theorem cnt_tx (ws : List Tx) (t : Tx) : dCnt (.lst (ws.map alD)) (alD t) = some (.int (ws.countP (isW t) : Nat)) := by
  show (if (alD t).scal = true ∧ (ws.map alD).all D.scal = true then some (D.int (((ws.map alD).map D.toV).countP fun y => eqV y (alD t).toV : Nat)) else none) = _
  rw [if_pos ⟨rfl, scal_tx ws⟩, List.map_map, List.countP_map]
  congr 4
  funext w
  exact eqV_tx w t
theorem idx_tx (ws : List Tx) (t : Tx) : dIdx (.lst (ws.map alD)) (alD t) = (ws.findIdx? (isW t)).map fun (j : Nat) => D.int (j : Nat) := by
  show (if (alD t).scal = true ∧ (ws.map alD).all D.scal = true then (((ws.map alD).map D.toV).findIdx? fun y => eqV y (alD t).toV).map fun (j : Nat) => D.int (j : Nat) else none) = _
  rw [if_pos ⟨rfl, scal_tx ws⟩, List.map_map, List.findIdx?_map]
  congr 2
  funext w
  exact eqV_tx w t
theorem count_one {α : Type} {p : α → Bool} : ∀ {ws : List α}, ws.countP p = 1 → ∃ L x R, ws = L ++ x :: R ∧ p x = true ∧ (∀ y ∈ L, p y = false) ∧ (∀ y ∈ R, p y = false)
  | [], h => by simp at h
  | w :: ws, h => by
    cases hp : p w with
    | true =>
      rw [List.countP_cons_of_pos (by simp [hp])] at h
      refine ⟨[], w, ws, rfl, hp, by simp, fun y hy => ?_⟩
      have h0 : ws.countP p = 0 := by omega
      have := List.countP_eq_zero.mp h0 y hy
      simpa using this
    | false =>
      rw [List.countP_cons_of_neg (by simp [hp])] at h
      obtain ⟨L, x, R, h1, h2, h3, h4⟩ := count_one h
      refine ⟨w :: L, x, R, by rw [h1]; rfl, h2, fun y hy => ?_, h4⟩
      rcases List.mem_cons.mp hy with q | q
      · rw [q]; exact hp
      · exact h3 y q
theorem cut_same {α : Type} {t : α} : ∀ {L R L' R' : List α}, L ++ t :: R = L' ++ t :: R' → t ∉ L → t ∉ L' → L = L' ∧ R = R'
  | [], R, [], R', h, _, _ => by simp at h; exact ⟨rfl, h⟩
  | [], R, b :: L', R', h, _, h2 => by
    simp at h
    exact absurd (by rw [h.1]; simp) h2
  | a :: L, R, [], R', h, h1, _ => by
    simp at h
    exact absurd (by rw [h.1]; simp) h1
  | a :: L, R, b :: L', R', h, h1, h2 => by
    simp at h
    obtain ⟨e1, e2⟩ := cut_same h.2 (fun q => h1 (by simp [q])) (fun q => h2 (by simp [q]))
    exact ⟨by rw [h.1, e1], e2⟩
def ruleOf (L R : List Tx) : Option Rule := match mapO readW L with
  | some l => match (if R = [[46]] then some [] else mapO readW R) with
    | some r => if r = [] ∧ R ≠ [[46]] then none else some (l, r)
    | none => none
  | none => none
def ar : Tx := [45, 62]
def progR (line : Tx) : Option Rule := if (sp [32] line).countP (isW ar) = 1 then ruleOf ((sp [32] line).take ((sp [32] line).findIdx (isW ar))) ((sp [32] line).drop ((sp [32] line).findIdx (isW ar) + 1)) else none
theorem txs_eq (R S : List Tx) : dEq (.lst (R.map alD)) (.lst (S.map alD)) = some (.bl (decide (R = S))) := (Emb.lst Emb.tx).eq (by decide) R S
theorem txs_ne (R S : List Tx) : dNe (.lst (R.map alD)) (.lst (S.map alD)) = some (.bl (!decide (R = S))) := (Emb.lst Emb.tx).ne (by decide) R S
theorem read_rule_run (line : Tx) (hl : line.length ≤ 500000) : m_read_rule A [alD line] = some (.val (optR (progR line))) := by
  have hs : 16000000 ≤ sizeLine := by unfold sizeLine; omega
  have hwl := sp_len (s := [32]) (x := line) (by simp)
  have hws := sp_short (s := [32]) (x := line) (by simp)
  unfold progR
  generalize hW : sp [32] line = ws at hwl hws
  refine m_val rfl ?_
  refine wp_seq (wp_set (d := .lst (ws.map alD)) (e_lst (by rw [← hW]; exact e_split (x := line) (s := [32]) rfl rfl (by simp) (by omega))) ?_)
  refine wp_seq (wp_if (b := !decide (((ws.countP (isW ar) : Nat) : Int) = 1)) (e_B (e_2 (e_2 rfl (y := alD ar) rfl (cnt_tx ws ar)) rfl (Emb.int.ne (by decide) _ _))) (fun hb => ?_) (fun hb => wp_next ?_))
  · refine wp_ret (d := .non) rfl ?_
    rw [if_neg (by simp at hb; omega)]
    rfl
  · have h1 : ws.countP (isW ar) = 1 := by simp at hb; omega
    rw [if_pos h1]
    obtain ⟨L, x, R, rfl, hx, hL, hR⟩ := count_one h1
    have hxa : x = ar := of_decide_eq_true hx
    have hidx : (L ++ x :: R).findIdx? (isW ar) = some L.length := findIdx_at hL hx
    have hidx2 : (L ++ x :: R).findIdx (isW ar) = L.length := by
      have := List.findIdx?_eq_some_iff_findIdx_eq.mp hidx
      exact this.2
    rw [hidx2]
    have ht : (L ++ x :: R).take L.length = L := by simp
    have hdr : (L ++ x :: R).drop (L.length + 1) = R := by
      rw [← List.drop_drop]
      simp
    have hLl : L.length ≤ 1000000 := by simp at hwl; omega
    have hRl : R.length ≤ 1000000 := by simp at hwl; omega
    have hLs := read_side_run A L hLl fun w hw => by have := hws w (by simp [hw]); omega
    have hRs := read_side_run A R hRl fun w hw => by have := hws w (by simp [hw]); omega
    rw [ht, hdr]
    refine wp_seq (wp_set (d := .int (L.length : Nat)) (e_2 (y := alD ar) rfl rfl (by rw [idx_tx, hidx]; rfl)) ?_)
    have cutR : ∀ c : VL.Env, (gVar 1 c = some (.lst ((L ++ x :: R).map alD)) ∨ True) → gLook 1 c = some (.lst ((L ++ x :: R).map alD)) → gLook 2 c = some (.int (L.length : Nat)) → gCut (gLook 1) (gPart (g2 dAdd (gLook 2) (gC (.int 1)))) (fun _ => some none) c = some (.lst (R.map alD)) := by
      intro c _ h1 h2
      have := e_cut (d := .lst ((L ++ x :: R).map alD)) (lo := some ((L.length + 1 : Nat) : Int)) (hi := none) (gl := gPart (g2 dAdd (gLook 2) (gC (.int 1)))) (gh := fun _ => some none) h1 (e_part (e_2 h2 rfl rfl)) rfl (cutL_suf (L.length + 1))
      rw [hdr] at this
      exact this
    have cutRv : ∀ c : VL.Env, gVar 1 c = some (.lst ((L ++ x :: R).map alD)) → gLook 2 c = some (.int (L.length : Nat)) → gCut (gVar 1) (gPart (g2 dAdd (gLook 2) (gC (.int 1)))) (fun _ => some none) c = some (.lst (R.map alD)) := by
      intro c h1 h2
      have := e_cut (d := .lst ((L ++ x :: R).map alD)) (lo := some ((L.length + 1 : Nat) : Int)) (hi := none) (gl := gPart (g2 dAdd (gLook 2) (gC (.int 1)))) (gh := fun _ => some none) h1 (e_part (e_2 h2 rfl rfl)) rfl (cutL_suf (L.length + 1))
      rw [hdr] at this
      exact this
    refine wp_seq (wp_set (d := optF (mapO readW L)) (e_fn (ds := [.lst (L.map alD)]) (e_cons (e_cut (d := .lst ((L ++ x :: R).map alD)) (lo := none) (hi := some ((L.length : Nat) : Int)) rfl rfl (e_part rfl) (by rw [cutL_pre, ht])) rfl) hLs) ?_)
    have dot : ∀ c : VL.Env, gL (gLen (VL.gCons (gC (.str ".")) VL.gNil)) c = some (.lst (([[46]] : List Tx).map alD)) := fun c => e_lst (e_ln rfl (by show 1 ≤ sizeLine; omega))
    refine wp_seq (wp_set (d := optF (if R = [[46]] then some [] else mapO readW R)) ?_ ?_)
    · have hp : gB (g2 dEq (gCut (gLook 1) (gPart (g2 dAdd (gLook 2) (gC (.int 1)))) (fun _ => some none)) (gL (gLen (VL.gCons (gC (.str ".")) VL.gNil)))) [some (.fz (alD line)), some (.fz (.lst ((L ++ x :: R).map alD))), some (.fz (.int (L.length : Nat))), some (.fz (optF (mapO readW L))), none] = some (decide (R = [[46]])) := e_B (e_2 (cutR _ (.inr trivial) rfl rfl) (dot _) (txs_eq R [[46]]))
      show gIfE _ _ _ [some (.fz (alD line)), some (.fz (.lst ((L ++ x :: R).map alD))), some (.fz (.int (L.length : Nat))), some (.fz (optF (mapO readW L))), none] = _
      unfold gIfE
      rw [hp]
      by_cases hd : R = [[46]]
      · rw [decide_eq_true hd, if_pos hd]
        exact e_tup rfl (by show 0 ≤ sizeLine; omega)
      · rw [decide_eq_false hd, if_neg hd]
        exact e_fn (ds := [.lst (R.map alD)]) (e_cons (cutRv _ rfl rfl) rfl) hRs
    · unfold ruleOf
      cases hl2 : mapO readW L with
      | none => exact wp_seq (wp_ift (by rfl) (wp_ret (d := .non) rfl rfl))
      | some l =>
        cases hr2 : (if R = [[46]] then some [] else mapO readW R) with
        | none => exact wp_seq (wp_ift (by rfl) (wp_ret (d := .non) rfl rfl))
        | some r =>
          have heq : dEq (fD r) (fD []) = some (.bl (decide (r = []))) := form_eq r []
          refine wp_seq (wp_if (b := false || (false || (decide (r = []) && !decide (R = [[46]])))) (e_or (e_B (e_2 rfl rfl rfl)) fun _ => e_or (e_B (e_2 rfl rfl rfl)) fun _ => e_and (e_B (e_2 (x := fD r) rfl (y := fD []) (e_tup rfl (by show 0 ≤ sizeLine; omega)) heq)) fun _ => e_B (e_2 (cutR _ (.inr trivial) rfl rfl) (dot _) (txs_ne R [[46]]))) (fun hb => ?_) (fun hb => wp_next ?_))
          · refine wp_ret (d := .non) rfl ?_
            simp only [Bool.false_or, Bool.and_eq_true, decide_eq_true_eq, Bool.not_eq_true', decide_eq_false_iff_not] at hb
            show _ = some (Res.val (optR (if r = [] ∧ R ≠ [[46]] then none else some (l, r))))
            rw [if_pos ⟨hb.1, hb.2⟩]
            rfl
          · refine wp_ret (d := rD (l, r)) (e_tup rfl (by show 2 ≤ sizeLine; omega)) ?_
            show _ = some (Res.val (optR (if r = [] ∧ R ≠ [[46]] then none else some (l, r))))
            rw [if_neg (fun h => by rw [decide_eq_true h.1, decide_eq_false h.2] at hb; cases hb)]
            rfl
end K43
end

section
namespace K43
open PySem PySem.Spec PyProof.Rows L2 VL
variable (A : Ad)
/-! the law's words -/
def lawV (v : Nat) (w : Tx) : Option Sy := match lawN w with
  | some n => if n < v then some (.v (n : Nat)) else none
  | none => none
def readLW (al : Tx) (v : Nat) (w : Tx) : Option Sy := match w with
  | [c] => if c ∈ al then some (.l c) else lawV v [c]
  | w => lawV v w
theorem readLW_long {al : Tx} {v : Nat} {w : Tx} (h : w.length ≠ 1) : readLW al v w = lawV v w := by
  unfold readLW
  split
  · exact absurd rfl h
  · rfl
theorem lawN_lt {w : Tx} {n : Nat} (h : lawN w = some n) : n < 10 ^ 9 := by
  have h2 : ∀ w : Tx, (1 ≤ w.length ∧ w.length ≤ 9) → w.all isDig = true → valT w < 10 ^ 9 := by
    intro w hl hd
    have key : ∀ (l : List Nat) (a : Nat), (∀ c ∈ l, c ≤ 57) → l.foldl (fun acc c => acc * 10 + (c - 48)) a < (a + 1) * 10 ^ l.length := by
      intro l
      induction l with
      | nil => intro a _; simp
      | cons c l ih =>
        intro a hc
        have h1 := ih (a * 10 + (c - 48)) fun d hd => hc d (List.mem_cons_of_mem _ hd)
        have h2 := hc c (List.mem_cons_self ..)
        rw [List.foldl_cons, List.length_cons, Nat.pow_succ]
        have h3 : (a * 10 + (c - 48) + 1) * 10 ^ l.length ≤ ((a + 1) * 10) * 10 ^ l.length := Nat.mul_le_mul_right _ (by omega)
        have h4 : (a + 1) * (10 ^ l.length * 10) = ((a + 1) * 10) * 10 ^ l.length := by rw [Nat.mul_comm (10 ^ l.length) 10, Nat.mul_assoc]
        omega
    have h5 := key (tn w) 0 (by
      intro c hc
      obtain ⟨a, h1, rfl⟩ := List.mem_map.mp hc
      have := List.all_eq_true.mp hd a h1
      unfold isDig at this
      rw [Bool.and_eq_true, decide_eq_true_eq, decide_eq_true_eq] at this
      exact this.2)
    rw [Nat.zero_add, Nat.one_mul, tn_len] at h5
    exact Nat.lt_of_lt_of_le h5 (Nat.pow_le_pow_right (by decide) hl.2)
  unfold lawN at h
  split at h
  · rename_i q
    cases h
    exact h2 w q.1 q.2
  · cases h
theorem law_symbol_run (al w : Tx) (v : Nat) (hl : w.length ≤ 1000000) : m__law_read_symbol A [alD w, alD al, .int (v : Nat)] = some (.val (optS (readLW al v w))) := by
  have hs : 16000000 ≤ sizeLine := by unfold sizeLine; omega
  refine m_val rfl ?_
  have num : readLW al v w = lawV v w → Wp (gSeq (gAsg (gFn (m__law_number A) (VL.gCons (gVar 0) VL.gNil)) (fName 3))
      (gSeq (gIf (gOr (gB (g2 dIs (gLook 3) (gC .non))) (gB (g2 dGe (gLook 3) (gLook 2)))) (gRet (gC .non)) gNext) (gRet (gVar 3)))) (VL.envOf 4 [alD w, alD al, .int (v : Nat)]) (fun o => outRes (some o) = some (.val (optS (readLW al v w)))) := by
    intro hr
    rw [hr]
    unfold lawV
    refine wp_seq (wp_set (d := optI (lawN w)) (e_fn (ds := [alD w]) rfl (law_number_run A w hl)) ?_)
    cases h0 : lawN w with
    | none => exact wp_seq (wp_ift (by rfl) (wp_ret (d := .non) rfl rfl))
    | some n =>
      refine wp_seq (wp_if (b := false || decide ((v : Int) ≤ (n : Int))) (e_or (e_B (e_2 rfl rfl rfl)) fun _ => e_B (e_2 rfl rfl rfl)) (fun hb => ?_) (fun hb => wp_next ?_))
      · refine wp_ret (d := .non) rfl ?_
        show _ = some (Res.val (optS (if n < v then some (Sy.v (n : Nat)) else none)))
        rw [if_neg (by simp at hb; omega)]
        rfl
      · refine wp_ret (d := .int (n : Nat)) rfl ?_
        show _ = some (Res.val (optS (if n < v then some (Sy.v (n : Nat)) else none)))
        rw [if_pos (by simp at hb; omega)]
        rfl
  by_cases h1 : w.length = 1
  · obtain ⟨c0, rfl⟩ : ∃ c0, w = [c0] := List.length_eq_one_iff.mp h1
    refine wp_seq (wp_if (b := true && decide (c0 ∈ al)) (e_and (e_B (e_2 (e_lenX (x := [c0]) rfl (by simp)) rfl (Emb.int.eq (by decide) _ _))) fun _ => e_B (e_2 (x := lD c0) rfl rfl (in_al c0 al))) (fun hb => ?_) (fun hb => wp_next (num ?_)))
    · have hm : c0 ∈ al := by simpa using hb
      refine wp_ret (d := (Sy.l c0).D) rfl ?_
      show _ = some (Res.val (optS (if c0 ∈ al then some (Sy.l c0) else _)))
      rw [if_pos hm]
      rfl
    · have hm : c0 ∉ al := by simpa using hb
      show (if c0 ∈ al then some (Sy.l c0) else _) = _
      rw [if_neg hm]
  · refine wp_seq (wp_iff ?_ (wp_next (num (readLW_long h1))))
    have := e_and (p := gB (g2 dEq (gCall fLen (VL.gCons (gLook 0) VL.gNil)) (gC (.int 1)))) (q := gB (g2 dIn (gLook 0) (gLook 1))) (c := VL.envOf 4 [alD w, alD al, .int (v : Nat)]) (a := false) (b := false) (e_B (e_2 (e_lenX (x := w) rfl (by omega)) rfl (by rw [Emb.int.eq (by decide), decide_eq_false (by omega)]))) (fun h => by cases h)
    exact this
def readPart (al : Tx) (v : Nat) (p : Tx) : Option Form := if p = [46] then some [] else mapO (readLW al v) (sp [32] p)
def lawR (al : Tx) (v : Nat) (line : Tx) : Option Rule := match mapO (readPart al v) (sp arrow line) with
  | some [s0, s1] => if s0.any isV = true ∧ sideT s0 ++ arrow ++ sideT s1 = line then some (s0, s1) else none
  | _ => none
theorem sum_le {m : Nat} : ∀ {ys : List Tx}, (∀ y ∈ ys, y.length ≤ m) → (ys.map List.length).sum ≤ m * ys.length
  | [], _ => by simp
  | y :: ys, h => by
    have h1 := h y (List.mem_cons_self ..)
    have h2 := sum_le fun z hz => h z (List.mem_cons_of_mem y hz)
    simp only [List.map_cons, List.sum_cons, List.length_cons, Nat.mul_add, Nat.mul_one]
    omega
/-- a symbol that was read -/
def Rd (al : Tx) (v : Nat) (s : Sy) : Prop := okSy al v s = true ∧ ∀ i, s = Sy.v i → 0 ≤ i ∧ i < 10 ^ 9
theorem lawV_rd {al : Tx} {v : Nat} {w : Tx} {s : Sy} (h : lawV v w = some s) : Rd al v s := by
  unfold lawV at h
  split at h
  · rename_i n hn
    split at h
    · rename_i hv
      cases h
      have := lawN_lt hn
      refine ⟨?_, fun i hi => ?_⟩
      · show (decide (0 ≤ (n : Int)) && decide ((n : Int) < (v : Int))) = true
        rw [decide_eq_true (by omega), decide_eq_true (by omega)]
        rfl
      · cases hi
        omega
    · cases h
  · cases h
theorem readLW_rd {al : Tx} {v : Nat} {w : Tx} {s : Sy} (h : readLW al v w = some s) : Rd al v s := by
  unfold readLW at h
  split at h
  · split at h
    · rename_i c hc
      cases h
      refine ⟨decide_eq_true hc, fun i hi => by cases hi⟩
    · exact lawV_rd h
  · exact lawV_rd h
theorem part_rd {al : Tx} {v : Nat} {p : Tx} {f : Form} (h : readPart al v p = some f) : (∀ s ∈ f, Rd al v s) ∧ f.length ≤ p.length + 1 := by
  unfold readPart at h
  split at h
  · cases h; simp
  · refine ⟨mapO_all (S := Rd al v) (fun x y => readLW_rd) h, ?_⟩
    have h1 := mapO_len h
    have h2 := sp_len (s := [32]) (x := p) (by simp)
    omega
theorem rd_side {al : Tx} {v : Nat} {f : Form} (h : ∀ s ∈ f, Rd al v s) : NN f ∧ (sideT f).length ≤ 10 * f.length + 1 := by
  refine ⟨fun s hs i hi => ?_, ?_⟩
  · have := (h s hs).2 i hi
    exact ⟨this.1, by omega⟩
  · unfold sideT
    split
    · simp
    · have h1 := joinT_len [32] (f.map wordOf)
      have h2 : ((f.map wordOf).map List.length).sum ≤ 9 * (f.map wordOf).length := sum_le fun y hy => by
        obtain ⟨s, hs, rfl⟩ := List.mem_map.mp hy
        cases s with
        | l c => simp [wordOf]
        | v i =>
          have := (h _ hs).2 i rfl
          exact dec_len (by decide) (by omega)
      simp only [List.length_map, List.length_cons, List.length_nil] at h1 h2
      omega
theorem law_read_rule_run (al line : Tx) (v : Nat) (hl : line.length ≤ 90000) : m__law_read_rule A [alD line, alD al, .int (v : Nat)] = some (.val (optR (lawR al v line))) := by
  have hs : 16000000 ≤ sizeLine := by unfold sizeLine; omega
  have hpl := sp_len (s := arrow) (x := line) (by decide)
  have hps := sp_short (s := arrow) (x := line) (by decide)
  unfold lawR
  generalize hW : sp arrow line = parts at hpl hps
  refine m_val rfl ?_
  refine wp_seq (wp_asgN (ds := ([] : List Form).map fD) rfl ?_)
  refine wp_seq (wp_for (ds := parts.map alD) (e_items (e_lst (by rw [← hW]; exact e_split (x := line) (s := arrow) rfl rfl (by decide) (by omega))) rfl) ?_)
  refine wpl_all (fun done c => ∃ (sides : List Form) (y4 y5 y6 y7 : Option Cell), mapO (readPart al v) done = some sides ∧ c = [some (.fz (alD line)), some (.fz (alD al)), some (.fz (.int (v : Nat))), some (.own (sides.map fD)), y4, y5, y6, y7]) ⟨[], none, none, none, none, rfl, rfl⟩ ?_ ?_
  · rintro done p rest c q ⟨sides, y4, y5, y6, y7, hd, rfl⟩
    have hp : p.length ≤ 90000 := by have := hps p (by rw [q]; simp); omega
    have hsl := mapO_len hd
    have hdl : done.length < 90002 := by have := congrArg List.length q; simp at this; omega
    refine ⟨_, rfl, ?_⟩
    refine wp_seq (wp_asgN (ds := ([] : Form).map Sy.D) rfl ?_)
    refine wp_seq ?_
    refine Wp.mono (P := fun o => (o = .ret .non ∧ readPart al v p = none) ∨ ∃ (f : Form) (y6 y7 : Option Cell), readPart al v p = some f ∧ o = .nx [some (.fz (alD line)), some (.fz (alD al)), some (.fz (.int (v : Nat))), some (.own (sides.map fD)), some (.fz (alD p)), some (.own (f.map Sy.D)), y6, y7]) ?_ ?_
    · refine wp_if (b := !decide (p = [46])) (e_B (e_2 rfl (y := alD [46]) rfl (Emb.tx.ne (by decide) p [46]))) (fun hb => ?_) (fun hb => wp_next (.inr ⟨[], _, _, ?_, rfl⟩))
      · have hne : p ≠ [46] := by simpa using hb
        have hrp : readPart al v p = mapO (readLW al v) (sp [32] p) := by unfold readPart; rw [if_neg hne]
        have hwl := sp_len (s := [32]) (x := p) (by simp)
        have hws := sp_short (s := [32]) (x := p) (by simp)
        rw [hrp]
        generalize hW2 : sp [32] p = ws at hwl hws
        refine wp_for (ds := ws.map alD) (e_items (e_lst (by rw [← hW2]; exact e_split (x := p) (s := [32]) rfl rfl (by simp) (by omega))) rfl) ?_
        refine wpl_all (fun done2 c => ∃ (acc : Form) (y6 y7 : Option Cell), mapO (readLW al v) done2 = some acc ∧ c = [some (.fz (alD line)), some (.fz (alD al)), some (.fz (.int (v : Nat))), some (.own (sides.map fD)), some (.fz (alD p)), some (.own (acc.map Sy.D)), y6, y7]) ⟨[], _, _, rfl, rfl⟩ ?_ ?_
        · rintro done2 w rest2 c q2 ⟨acc, y6, y7, hd2, rfl⟩
          have hw : w.length ≤ 1000000 := by have := hws w (by rw [q2]; simp); omega
          have hal := mapO_len hd2
          have hdl2 : done2.length < 90002 := by have := congrArg List.length q2; simp at this; omega
          refine ⟨_, rfl, ?_⟩
          refine wp_seq (wp_set (d := optS (readLW al v w)) (e_fn (ds := [alD w, alD al, .int (v : Nat)]) rfl (law_symbol_run A al w v hw)) ?_)
          refine wp_seq (wp_if (b := (readLW al v w).isNone) (e_B (e_2 rfl rfl (is_optS _))) (fun hb => ?_) (fun hb => wp_next ?_))
          · have h0 : readLW al v w = none := by simpa using hb
            exact wp_ret (d := .non) rfl (.inl ⟨rfl, by rw [q2]; exact mapO_none done2 w rest2 h0⟩)
          · cases h0 : readLW al v w with
            | none => rw [h0] at hb; cases hb
            | some s =>
              refine wp_append (ds := acc.map Sy.D) (d := s.D) rfl rfl (by simp; omega) ?_
              exact ⟨acc ++ [s], _, _, mapO_app hd2 w s h0, by rw [List.map_append]; rfl⟩
        · rintro c ⟨acc, y6, y7, hd2, rfl⟩
          exact .inr ⟨acc, _, _, hd2, rfl⟩
      · have he : p = [46] := by simpa using hb
        unfold readPart
        rw [if_pos he]
    · rintro o (⟨rfl, hno⟩ | ⟨f, y6, y7, hf, rfl⟩)
      · show outRes (some (Out.ret .non)) = _
        rw [q, mapO_none done p rest hno]
        rfl
      · refine wp_frz (wp_append (ds := sides.map fD) (d := fD f) rfl rfl (by simp; omega) ?_)
        exact ⟨sides ++ [f], _, _, _, _, mapO_app hd p f hf, by rw [List.map_append]; rfl⟩
  · rintro c ⟨sides, y4, y5, y6, y7, hd, rfl⟩
    have hlen : ∀ c : VL.Env, gLook 3 c = some (.lst (sides.map fD)) → gCall fLen (VL.gCons (gLook 3) VL.gNil) c = some (.int (sides.length : Nat)) := fun c h => e_lenM (e := fD) (xs := sides) h
    rw [hd]
    by_cases h2 : sides.length = 2
    · obtain ⟨s0, s1, rfl⟩ : ∃ s0 s1, sides = [s0, s1] := by
        cases sides with
        | nil => simp at h2
        | cons a t =>
          cases t with
          | nil => simp at h2
          | cons b u =>
            cases u with
            | nil => exact ⟨a, b, rfl⟩
            | cons d e => simp at h2
      have hpr : ∀ f ∈ [s0, s1], (∀ s ∈ f, Rd al v s) ∧ f.length ≤ 90001 := by
        have key : ∀ {ps : List Tx} {fs : List Form}, (∀ p ∈ ps, p.length ≤ 90000) → mapO (readPart al v) ps = some fs → ∀ f ∈ fs, (∀ s ∈ f, Rd al v s) ∧ f.length ≤ 90001 := by
          intro ps
          induction ps with
          | nil => intro fs _ h; cases h; simp
          | cons p ps ih =>
            intro fs hb h
            rw [mapO_cons] at h
            split at h
            · rename_i g hg
              split at h
              · rename_i gs hgs
                cases h
                intro f hf
                rcases List.mem_cons.mp hf with e | e
                · rw [e]
                  have := part_rd hg
                  exact ⟨this.1, by have := this.2; have := hb p (List.mem_cons_self ..); omega⟩
                · exact ih (fun p hp => hb p (List.mem_cons_of_mem _ hp)) hgs f e
              · cases h
            · cases h
        exact key (fun p hp => by have := hps p hp; omega) hd
      obtain ⟨r0, l0⟩ := hpr s0 (by simp)
      obtain ⟨r1, l1⟩ := hpr s1 (by simp)
      obtain ⟨n0, t0⟩ := rd_side r0
      obtain ⟨n1, t1⟩ := rd_side r1
      have x0 : ∀ c : VL.Env, gLook 3 c = some (.lst ([s0, s1].map fD)) → VL.g2 dIx (gLook 3) (gC (.int 0)) c = some (fD s0) := fun c h => e_2 h rfl (ix_map (e := fD) (xs := [s0, s1]) (k := 0) rfl rfl)
      have x1 : ∀ c : VL.Env, gLook 3 c = some (.lst ([s0, s1].map fD)) → VL.g2 dIx (gLook 3) (gC (.int 1)) c = some (fD s1) := fun c h => e_2 h rfl (ix_map (e := fD) (xs := [s0, s1]) (k := 1) rfl rfl)
      refine wp_seq (wp_if (b := false || decide (((s0.filter isV).length : Int) = 0)) (e_or (a := false) (e_B (e_2 (hlen _ rfl) rfl rfl)) fun _ => e_B (e_2 (e_lenM (e := Sy.D) (xs := s0.filter isV) (e_lst (e_lcF (e := Sy.D) (h := Sy.D) (xs := s0) (q := isV) (e_items (x0 _ rfl) rfl) (by omega) fun s _ => ⟨_, rfl, ?_, fun _ => rfl⟩))) rfl (Emb.int.eq (by decide) _ _))) (fun hb => ?_) (fun hb => wp_next ?_))
      · cases s <;> rfl
      · have h0 : s0.any isV = false := by
          have h0 : (s0.filter isV).length = 0 := by simp only [Bool.false_or, decide_eq_true_eq] at hb; omega
          rw [Bool.eq_false_iff, Ne, List.any_eq_true]
          rintro ⟨s, hs, hv⟩
          have := List.mem_filter.mpr ⟨hs, hv⟩
          rw [List.length_eq_zero_iff.mp h0] at this
          cases this
        refine wp_ret (d := .non) rfl ?_
        show _ = some (Res.val (optR (if s0.any isV = true ∧ sideT s0 ++ arrow ++ sideT s1 = line then some (s0, s1) else none)))
        rw [if_neg (fun q => by rw [h0] at q; cases q.1)]
        rfl
      · have h0 : s0.any isV = true := by
          have h0 : (s0.filter isV).length ≠ 0 := by simp only [Bool.false_or, decide_eq_false_iff_not] at hb; omega
          obtain ⟨s, hs⟩ := List.exists_mem_of_length_pos (Nat.pos_of_ne_zero h0)
          obtain ⟨q1, q2⟩ := List.mem_filter.mp hs
          exact List.any_eq_true.mpr ⟨s, q1, q2⟩
        refine wp_seq (wp_if (b := !decide (sideT s0 ++ arrow ++ sideT s1 = line)) (e_B (e_2 (e_2 (e_2 (e_fn (ds := [fD s0]) (e_cons (x0 _ rfl) rfl) (law_side_run A s0 n0 (by omega))) (y := alD arrow) rfl (add2 (by have : arrow.length = 4 := rfl; omega))) (e_fn (ds := [fD s1]) (e_cons (x1 _ rfl) rfl) (law_side_run A s1 n1 (by omega))) (add2 (by have : arrow.length = 4 := rfl; simp only [List.length_append]; omega))) rfl (Emb.tx.ne (by decide) _ _))) (fun hb => ?_) (fun hb => wp_next ?_))
        · refine wp_ret (d := .non) rfl ?_
          show _ = some (Res.val (optR (if s0.any isV = true ∧ sideT s0 ++ arrow ++ sideT s1 = line then some (s0, s1) else none)))
          rw [if_neg (fun q => by rw [decide_eq_true q.2] at hb; cases hb)]
          rfl
        · refine wp_ret (d := rD (s0, s1)) (e_tup (e_cons (x0 _ rfl) (e_cons (x1 _ rfl) rfl)) (by show 2 ≤ sizeLine; omega)) ?_
          show _ = some (Res.val (optR (if s0.any isV = true ∧ sideT s0 ++ arrow ++ sideT s1 = line then some (s0, s1) else none)))
          rw [if_pos ⟨h0, by simpa using hb⟩]
          rfl
    · refine wp_seq (wp_ift ?_ (wp_ret (d := .non) rfl ?_))
      · have := e_or (p := gB (g2 dNe (gCall fLen (VL.gCons (gLook 3) VL.gNil)) (gC (.int 2)))) (q := gB (g2 dEq (gCall fLen (VL.gCons (gL (gLc (gIt (g2 dIx (gLook 3) (gC (.int 0)))) (fName 7) (gNot (gTru (gIsi "str" (gLook 7)))) (gVar 7) [7])) VL.gNil)) (gC (.int 0)))) (c := [some (.fz (alD line)), some (.fz (alD al)), some (.fz (.int (v : Nat))), some (.own (sides.map fD)), y4, y5, y6, y7]) (a := true) (b := true) (e_B (e_2 (hlen _ rfl) rfl (by rw [Emb.int.ne (by decide), decide_eq_false (by omega)]; rfl))) (fun h => by cases h)
        exact this
      · cases sides with
        | nil => rfl
        | cons a t =>
          cases t with
          | nil => rfl
          | cons b u =>
            cases u with
            | nil => simp at h2
            | cons d e => rfl
end K43
end

section
namespace K43
open PySem PySem.Spec PyProof.Rows L2 VL
variable (A : Ad)
def LowA (al : Tx) : Prop := ∀ c ∈ al, isLow c = true
/-- letters and digits -/
def Plain (w : Tx) : Prop := w ≠ [] ∧ ∀ c ∈ w, isLow c = true ∨ isDig c = true
theorem okSy_l {al : Tx} {v : Int} {c : Lt} (h : okSy al v (.l c) = true) : c ∈ al := of_decide_eq_true h
theorem okSy_n {al : Tx} {v i : Int} (h : okSy al v (.v i) = true) : 0 ≤ i ∧ i < v := by
  have h2 : (decide (0 ≤ i) && decide (i < v)) = true := h
  rw [Bool.and_eq_true, decide_eq_true_eq, decide_eq_true_eq] at h2
  exact h2
theorem word_plain {al : Tx} {v : Int} {s : Sy} (hal : LowA al) (h : okSy al v s = true) : Plain (wordOf s) := by
  cases s with
  | l c => exact ⟨by simp [wordOf], fun d hd => by simp [wordOf] at hd; rw [hd]; exact .inl (hal c (okSy_l h))⟩
  | v i => exact ⟨dec_ne _, fun d hd => .inr (dec_dig _ d hd)⟩
theorem plain_not {w : Tx} (h : Plain w) {c : Lt} (hc : isLow c = false ∧ isDig c = false) : c ∉ w := fun hm => by
  rcases h.2 c hm with q | q
  · rw [q] at hc; cases hc.1
  · rw [q] at hc; cases hc.2
def wordsR (f : Form) : List Tx := if f = [] then [[46]] else f.map wordOf
theorem side_words (f : Form) : sideT f = joinT [32] (wordsR f) ∧ wordsR f ≠ [] := by
  unfold sideT wordsR
  split
  · exact ⟨rfl, by simp⟩
  · rename_i h
    exact ⟨rfl, by simpa using h⟩
def Syms (al : Tx) (v : Int) (f : Form) : Prop := ∀ s ∈ f, okSy al v s = true
theorem words_free {al : Tx} {v : Int} {f : Form} (hal : LowA al) (h : Syms al v f) {c : Lt} (hc : isLow c = false ∧ isDig c = false) (h46 : c ≠ 46) : ∀ w ∈ wordsR f, c ∉ w := by
  intro w hw
  unfold wordsR at hw
  split at hw
  · simp at hw
    rw [hw]
    simpa using h46
  · obtain ⟨s, hs, rfl⟩ := List.mem_map.mp hw
    exact plain_not (word_plain hal (h s hs)) hc
theorem side_free {al : Tx} {v : Int} {f : Form} (hal : LowA al) (h : Syms al v f) {c : Lt} (hc : isLow c = false ∧ isDig c = false) (h46 : c ≠ 46) (h32 : c ≠ 32) : c ∉ sideT f := by
  rw [(side_words f).1]
  intro hm
  rcases joinT_of hm with q | ⟨w, hw, q⟩
  · simp at q; exact h32 q
  · exact words_free hal h hc h46 w hw q
theorem side_not_dot {al : Tx} {v : Int} {f : Form} (hal : LowA al) (h : Syms al v f) (h0 : f ≠ []) : sideT f ≠ [46] := by
  intro e
  unfold sideT at e
  rw [if_neg h0] at e
  cases f with
  | nil => exact h0 rfl
  | cons s t =>
    have hp := word_plain hal (h s (by simp))
    obtain ⟨c, hc⟩ := List.exists_mem_of_length_pos (List.length_pos_iff.mpr hp.1)
    have hm : c ∈ joinT [32] ((s :: t).map wordOf) := joinT_mem (p := wordOf s) (by simp) hc
    rw [e] at hm
    simp at hm
    rcases hp.2 c hc with q | q <;> rw [hm] at q <;> revert q <;> decide
theorem arrow_eq : arrow = [32] ++ ar ++ [32] := rfl
theorem rule_join {L R : List Tx} (hL : L ≠ []) (hR : R ≠ []) : joinT [32] (L ++ ar :: R) = joinT [32] L ++ arrow ++ joinT [32] R := by
  rw [joinT_app [32] hL (by simp), joinT_cons [32] ar hR, arrow_eq]
  simp
/-! the program's reading, told by the text -/
theorem prog_struct {line : Tx} {L R : List Tx} (h : sp [32] line = L ++ ar :: R) (hL : ar ∉ L) (hR : ar ∉ R) : progR line = ruleOf L R := by
  have eL : ∀ y ∈ L, isW ar y = false := fun y hy => decide_eq_false fun e => hL (by rw [← e]; exact hy)
  have eR : ∀ y ∈ R, isW ar y = false := fun y hy => decide_eq_false fun e => hR (by rw [← e]; exact hy)
  have hx : isW ar ar = true := decide_eq_true rfl
  have hc : (L ++ ar :: R).countP (isW ar) = 1 := by
    rw [List.countP_append, List.countP_cons_of_pos hx, List.countP_eq_zero.mpr (fun y hy => by rw [eL y hy]; simp), List.countP_eq_zero.mpr (fun y hy => by rw [eR y hy]; simp)]
  have hi : (L ++ ar :: R).findIdx (isW ar) = L.length := (List.findIdx?_eq_some_iff_findIdx_eq.mp (findIdx_at eL hx)).2
  unfold progR
  rw [h, if_pos hc, hi]
  have ht : (L ++ ar :: R).take L.length = L := by simp
  have hdr : (L ++ ar :: R).drop (L.length + 1) = R := by
    rw [← List.drop_drop]
    simp
  rw [ht, hdr]
theorem prog_some {line : Tx} {r : Rule} (h : progR line = some r) : ∃ L R, sp [32] line = L ++ ar :: R ∧ ruleOf L R = some r := by
  unfold progR at h
  split at h
  · rename_i h1
    obtain ⟨L, x, R, e, hx, hL, hR⟩ := count_one h1
    have hxa : x = ar := of_decide_eq_true hx
    subst hxa
    refine ⟨L, R, e, ?_⟩
    have := prog_struct e (fun q => by have := hL ar q; rw [hx] at this; cases this) (fun q => by have := hR ar q; rw [hx] at this; cases this)
    rw [← this]
    unfold progR
    rw [if_pos h1]
    exact h
  · cases h
theorem readW_len {L : List Tx} {l : Form} (h : mapO readW L = some l) : l.map wordOf = L := mapO_back (fun x y => readW_back) h
theorem progR_text {line : Tx} {r : Rule} (h : progR line = some r) (h0 : r.1 ≠ []) : line = ruleT r ∧ r.1.length + r.2.length ≤ 2 * line.length + 2 := by
  obtain ⟨L, R, e, hr⟩ := prog_some h
  unfold ruleOf at hr
  split at hr
  · rename_i l hl
    split at hr
    · rename_i r2 hr2
      split at hr
      · cases hr
      · rename_i hn
        cases hr
        have eL := readW_len hl
        have hLn : L ≠ [] := by
          intro q
          rw [q] at eL
          exact h0 (List.map_eq_nil_iff.mp eL)
        have eR : wordsR r2 = R := by
          unfold wordsR
          split at hr2
          · rename_i hd
            cases hr2
            rw [if_pos rfl, hd]
          · rename_i hd
            have hne : r2 ≠ [] := fun q => hn ⟨q, hd⟩
            rw [if_neg hne]
            exact readW_len hr2
        have hRn : R ≠ [] := by rw [← eR]; exact (side_words r2).2
        have hj := sp_join (s := [32]) (x := line) (by simp)
        have hlen := sp_len (s := [32]) (x := line) (by simp)
        rw [e, rule_join hLn hRn] at hj
        refine ⟨?_, ?_⟩
        · rw [← hj]
          show _ = sideT l ++ arrow ++ sideT r2
          rw [(side_words r2).1, eR, (side_words l).1]
          have : wordsR l = L := by unfold wordsR; rw [if_neg h0]; exact eL
          rw [this]
        · rw [e] at hlen
          have h1 : l.length = L.length := by rw [← eL, List.length_map]
          have h2 : r2.length ≤ R.length := by
            rw [← eR]
            unfold wordsR
            split
            · rename_i q; rw [q]; simp
            · rw [List.length_map]; omega
          simp at hlen
          show l.length + r2.length ≤ _
          omega
    · cases hr
  · cases hr
theorem okRule_parts {al : Tx} {v : Int} {r : Rule} (h : okRule al v r = true) : Syms al v r.1 ∧ Syms al v r.2 ∧ r.1 ≠ [] ∧ r.1.any isV = true := by
  unfold okRule at h
  rw [Bool.and_eq_true, List.all_eq_true] at h
  refine ⟨fun s hs => h.1 s (List.mem_append.mpr (.inl hs)), fun s hs => h.1 s (List.mem_append.mpr (.inr hs)), fun hn => ?_, h.2⟩
  rw [hn] at h
  simp at h
theorem readW_of {al : Tx} {v : Nat} {s : Sy} (hal : LowA al) (hv : v ≤ 10 ^ 9) (h : okSy al v s = true) : readW (wordOf s) = some s ∧ readLW al v (wordOf s) = some s := by
  cases s with
  | l c =>
    have hc := okSy_l h
    constructor
    · show (if isLow c = true then some (Sy.l c) else _) = _
      rw [if_pos (hal c hc)]
    · show (if c ∈ al then some (Sy.l c) else _) = _
      rw [if_pos hc]
  | v i =>
    obtain ⟨h0, h1⟩ := okSy_n h
    obtain ⟨n, rfl⟩ := Int.eq_ofNat_of_zero_le h0
    have hn : n < v := by omega
    have hn2 : n < 10 ^ 9 := by omega
    refine ⟨readW_num hn2, ?_⟩
    have hlv : lawV v (decT n) = some (.v (n : Nat)) := by
      unfold lawV
      rw [(readN_dec hn2).2]
      exact if_pos hn
    show readLW al v (decT n) = _
    unfold readLW
    split
    · rename_i c hc
      have hd : isDig c = true := dec_dig n c (by rw [hc]; simp)
      have : c ∉ al := fun q => by
        have := hal c q
        rw [dig_not_low hd] at this
        cases this
      rw [if_neg this, ← hc]
      exact hlv
    · exact hlv
theorem ar_not {al : Tx} {v : Int} {f : Form} (hal : LowA al) (h : Syms al v f) : ar ∉ wordsR f := fun hm => words_free hal h (c := 45) (by decide) (by decide) ar hm (by decide)
theorem progR_of {al : Tx} {v : Nat} {r : Rule} (hal : LowA al) (hv : v ≤ 10 ^ 9) (h : okRule al v r = true) : progR (ruleT r) = some r := by
  obtain ⟨h1, h2, h3, _⟩ := okRule_parts h
  have e1 : wordsR r.1 = r.1.map wordOf := by unfold wordsR; rw [if_neg h3]
  have hj : ruleT r = joinT [32] (wordsR r.1 ++ ar :: wordsR r.2) := by
    rw [rule_join (side_words r.1).2 (side_words r.2).2, ← (side_words r.1).1, ← (side_words r.2).1]
    rfl
  have hsp : sp [32] (ruleT r) = wordsR r.1 ++ ar :: wordsR r.2 := by
    rw [hj]
    refine sp_back (by simp) fun w hw => ?_
    rcases List.mem_append.mp hw with q | q
    · exact words_free hal h1 (by decide) (by decide) w q
    · rcases List.mem_cons.mp q with q | q
      · rw [q]; decide
      · exact words_free hal h2 (by decide) (by decide) w q
  rw [prog_struct hsp (ar_not hal h1) (ar_not hal h2)]
  have m1 : mapO readW (wordsR r.1) = some r.1 := by
    rw [e1]
    exact mapO_of fun s hs => (readW_of hal hv (h1 s hs)).1
  have m2 : (if wordsR r.2 = [[46]] then some [] else mapO readW (wordsR r.2)) = some r.2 ∧ ¬(r.2 = [] ∧ wordsR r.2 ≠ [[46]]) := by
    by_cases h0 : r.2 = []
    · have : wordsR r.2 = [[46]] := by unfold wordsR; rw [if_pos h0]
      rw [if_pos this, h0]
      exact ⟨rfl, fun q => q.2 (by rw [← h0]; exact this)⟩
    · have e2 : wordsR r.2 = r.2.map wordOf := by unfold wordsR; rw [if_neg h0]
      have hnd : wordsR r.2 ≠ [[46]] := by
        intro q
        have := (side_words r.2).1
        rw [q] at this
        exact side_not_dot hal h2 h0 this
      rw [if_neg hnd, e2]
      exact ⟨mapO_of fun s hs => (readW_of hal hv (h2 s hs)).1, fun q => h0 q.1⟩
  unfold ruleOf
  rw [m1]
  simp only []
  rw [m2.1]
  simp only []
  rw [if_neg m2.2]
/-! the law's reading, told by the text -/
theorem lawR_text {al : Tx} {v : Nat} {line : Tx} {r : Rule} (h : lawR al v line = some r) : okRule al v r = true ∧ line = ruleT r := by
  unfold lawR at h
  split at h
  · rename_i s0 s1 hm
    split at h
    · rename_i q
      cases h
      have key : ∀ {ps : List Tx} {fs : List Form}, mapO (readPart al v) ps = some fs → ∀ f ∈ fs, ∀ s ∈ f, Rd al v s := fun h => mapO_all (S := fun f : Form => ∀ s ∈ f, Rd al v s) (fun x y hy => (part_rd hy).1) h
      have k0 := key hm s0 (by simp)
      have k1 := key hm s1 (by simp)
      refine ⟨?_, q.2.symm⟩
      unfold okRule
      rw [Bool.and_eq_true, List.all_eq_true]
      refine ⟨fun s hs => ?_, q.1⟩
      rcases List.mem_append.mp hs with z | z
      · exact (k0 s z).1
      · exact (k1 s z).1
    · cases h
  · cases h
theorem part_of {al : Tx} {v : Nat} {f : Form} (hal : LowA al) (hv : v ≤ 10 ^ 9) (h : Syms al v f) : readPart al v (sideT f) = some f := by
  unfold readPart
  by_cases h0 : f = []
  · subst h0
    rfl
  · rw [if_neg (side_not_dot hal h h0)]
    have e : sideT f = joinT [32] (f.map wordOf) := by unfold sideT; rw [if_neg h0]
    rw [e, sp_back (by simpa using h0) (fun w hw => by
      obtain ⟨s, hs, rfl⟩ := List.mem_map.mp hw
      exact plain_not (word_plain hal (h s hs)) (by decide))]
    exact mapO_of fun s hs => (readW_of hal hv (h s hs)).2
theorem lawR_of {al : Tx} {v : Nat} {r : Rule} (hal : LowA al) (hv : v ≤ 10 ^ 9) (h : okRule al v r = true) : lawR al v (ruleT r) = some r := by
  obtain ⟨h1, h2, h3, h4⟩ := okRule_parts h
  unfold lawR
  have hsp : sp arrow (ruleT r) = [sideT r.1, sideT r.2] := sp_arrow (side_free hal h1 (by decide) (by decide) (by decide)) (side_free hal h2 (by decide) (by decide) (by decide))
  have hm : mapO (readPart al v) [sideT r.1, sideT r.2] = some [r.1, r.2] := by
    rw [mapO_cons, part_of hal hv h1, mapO_cons, part_of hal hv h2]
    rfl
  rw [hsp, hm]
  simp only []
  rw [if_pos ⟨h4, rfl⟩]
/-- both read the same -/
theorem both_read {al : Tx} {v : Nat} {line : Tx} (hal : LowA al) (hv : v ≤ 10 ^ 9) : (∃ r, lawR al v line = some r ∧ progR line = some r ∧ okRule al v r = true ∧ line = ruleT r) ∨
    (lawR al v line = none ∧ (progR line = none ∨ ∃ r, progR line = some r ∧ okRule al v r = false)) := by
  cases h : lawR al v line with
  | some r =>
    obtain ⟨h1, h2⟩ := lawR_text h
    left
    refine ⟨r, rfl, ?_, h1, h2⟩
    rw [h2]
    exact progR_of hal hv h1
  | none =>
    right
    refine ⟨rfl, ?_⟩
    cases h2 : progR line with
    | none => exact .inl rfl
    | some r =>
      right
      refine ⟨r, rfl, ?_⟩
      cases h3 : okRule al v r with
      | false => rfl
      | true =>
        exfalso
        obtain ⟨_, _, h4, _⟩ := okRule_parts h3
        have h5 := (progR_text h2 h4).1
        have h6 := lawR_of hal hv h3
        rw [← h5, h] at h6
        cases h6
theorem progR_small {line : Tx} {r : Rule} (h : progR line = some r) : r.1.length + r.2.length ≤ 2 * line.length + 3 := by
  by_cases h0 : r.1 = []
  · obtain ⟨L, R, e, hr⟩ := prog_some h
    have hlen := sp_len (s := [32]) (x := line) (by simp)
    rw [e] at hlen
    simp at hlen
    unfold ruleOf at hr
    split at hr
    · rename_i l hl
      split at hr
      · rename_i r2 hr2
        split at hr
        · cases hr
        · cases hr
          have h1 := mapO_len hl
          have h2 : r2.length ≤ R.length := by
            split at hr2
            · cases hr2; simp
            · rw [mapO_len hr2]; omega
          show l.length + r2.length ≤ _
          omega
      · cases hr
    · cases hr
  · have := (progR_text h h0).2
    omega
end K43
end

section
namespace K43
open PySem PySem.Spec PyProof.Rows L2 VL
variable (A : Ad)
/-! loops over range(a, ..) -/
theorem range_at {n x : Nat} {done rest : List Nat} (q : List.range n = done ++ x :: rest) : x = done.length ∧ done.length < n := by
  have h1 : (List.range n)[done.length]? = some x := by rw [q]; simp
  have h2 : done.length < n := by
    have := congrArg List.length q
    simp at this
    omega
  rw [List.getElem?_range h2] at h1
  exact ⟨(Option.some.inj h1).symm, h2⟩
theorem wpl_rgA {c : VL.Env} {gb : GS} {P : Out → Prop} {f : D → VL.Env → Option VL.Env} {a : Int} {n : Nat} (I : Nat → VL.Env → Prop) (h0 : I 0 c)
    (hs : ∀ k c, k < n → I k c → ∃ c1, f (.int (a + (k : Nat))) c = some c1 ∧ Wp gb c1 (Turn (I (k + 1)) P)) (he : ∀ c, I n c → P (.nx c)) : WpL f gb (rgD a n) c P := by
  show WpL f gb ((List.range n).map fun i => D.int (a + (i : Nat))) c P
  refine wpl_all (fun done c => I done.length c) h0 ?_ ?_
  · intro done x rest c q hI
    obtain ⟨rfl, h2⟩ := range_at q
    rw [List.length_append]
    exact hs _ c h2 hI
  · intro c hI
    rw [List.length_range] at hI
    exact he c hI
/-! alphabets -/
def goodAt (w : Tx) (k : Nat) : Bool := match w[k]? with
  | some c => isLow c && (decide (k = 0) || match w[k - 1]? with
    | some d => decide (d.val < c.val)
    | none => false)
  | none => false
def isAlphB (w : Tx) : Bool := (decide (1 ≤ w.length) && decide (w.length ≤ 26)) && (List.range w.length).all (goodAt w)
theorem alph_false {w : Tx} {k : Nat} (hk : k < w.length) (h : goodAt w k = false) : isAlphB w = false := by
  unfold isAlphB
  have : (List.range w.length).all (goodAt w) = false := by
    rw [Bool.eq_false_iff, Ne, List.all_eq_true]
    intro q
    have := q k (List.mem_range.mpr hk)
    rw [h] at this
    cases this
  rw [this, Bool.and_false]
theorem goodAt_low {w : Tx} {k : Nat} (hk : k < w.length) : goodAt w k = (isLow w[k] && (decide (k = 0) || decide (w[k - 1].val < w[k].val))) := by
  unfold goodAt
  rw [List.getElem?_eq_getElem hk, List.getElem?_eq_getElem (show k - 1 < w.length by omega)]
theorem alph_low {w : Tx} (h : isAlphB w = true) : LowA w ∧ 1 ≤ w.length ∧ w.length ≤ 26 := by
  unfold isAlphB at h
  rw [Bool.and_eq_true, Bool.and_eq_true, decide_eq_true_eq, decide_eq_true_eq, List.all_eq_true] at h
  refine ⟨fun c hc => ?_, h.1.1, h.1.2⟩
  obtain ⟨k, hk, rfl⟩ := List.mem_iff_getElem.mp hc
  have := h.2 k (List.mem_range.mpr hk)
  rw [goodAt_low hk, Bool.and_eq_true] at this
  exact this.1
theorem is_alphabet_runB (w : Tx) (hl : w.length ≤ 1000000) : m_is_alphabet A [alD w] = some (.val (.bl (isAlphB w))) := by
  have hs : 16000000 ≤ sizeLine := by unfold sizeLine; omega
  refine m_val rfl ?_
  have ll : ∀ c : VL.Env, gLook 0 c = some (alD w) → gCall fLen (VL.gCons (gLook 0) VL.gNil) c = some (.int (w.length : Nat)) := fun c h => e_lenX h (by omega)
  have hch : gB (gChain dLe dLe (gC (.int 1)) (gCall fLen (VL.gCons (gLook 0) VL.gNil)) (gC (.int 26))) (VL.envOf 2 [alD w]) = some (decide ((1 : Int) ≤ (w.length : Nat)) && decide (((w.length : Nat) : Int) ≤ 26)) := e_B (e_chainLL rfl (ll _ rfl) rfl)
  have hcast : (decide ((1 : Int) ≤ (w.length : Nat)) && decide (((w.length : Nat) : Int) ≤ 26)) = (decide (1 ≤ w.length) && decide (w.length ≤ 26)) := by
    congr 1 <;> exact decide_eq_decide.mpr (by omega)
  rw [hcast] at hch
  refine wp_seq (wp_if (b := !(decide (1 ≤ w.length) && decide (w.length ≤ 26))) (e_not hch) (fun hb => ?_) (fun hb => wp_next ?_))
  · refine wp_ret (d := .bl false) rfl ?_
    unfold isAlphB
    rw [show (decide (1 ≤ w.length) && decide (w.length ≤ 26)) = false by
      cases h : (decide (1 ≤ w.length) && decide (w.length ≤ 26)) with
      | false => rfl
      | true => rw [h] at hb; cases hb]
    rfl
  · have h26 : (decide (1 ≤ w.length) && decide (w.length ≤ 26)) = true := by
      cases h : (decide (1 ≤ w.length) && decide (w.length ≤ 26)) with
      | true => rfl
      | false => rw [h] at hb; cases hb
    refine wp_seq (wp_for (ds := rgD 0 w.length) (e_rg1 (n := (w.length : Nat)) (e_cons (ll _ rfl) rfl) (by omega) (by omega)) ?_)
    refine wpl_rg (fun k c => (List.range k).all (goodAt w) = true ∧ ∃ y, c = [some (.fz (alD w)), y]) ⟨rfl, none, rfl⟩ ?_ ?_
    · rintro k c hk ⟨hd, y, rfl⟩
      have hx : ∀ (j : Nat) (hj : j < w.length), dIx (alD w) (nD j) = some (lD w[j]) := fun j hj => ix_al (by omega) (List.getElem?_eq_getElem hj)
      refine ⟨_, rfl, ?_⟩
      refine wp_seq (wp_if (b := !isLow w[k]) (e_B (e_2 (e_2 rfl rfl (hx k hk)) rfl (notIn_low _))) (fun hb => ?_) (fun hb => wp_next ?_))
      · refine wp_ret (d := .bl false) rfl ?_
        rw [alph_false hk (by rw [goodAt_low hk, show isLow w[k] = false by simpa using hb]; rfl)]
        rfl
      · have hlow : isLow w[k] = true := by simpa using hb
        have hix : 0 < k → VL.g2 dIx (gLook 0) (VL.g2 dSub (gLook 1) (gC (.int 1))) [some (.fz (alD w)), some (.fz (nD k))] = some (lD (w[k - 1]'(by omega))) := fun h0 => by
          refine e_2 rfl (e_2 (x := nD k) rfl rfl (z := nD (k - 1)) ?_) (hx (k - 1) (by omega))
          show some (D.int ((k : Int) - 1)) = _
          congr 2
          omega
        refine wp_if (b := decide ((0 : Int) < (k : Nat)) && decide (w[k].val ≤ (w[k - 1]'(by omega)).val)) (e_and (e_B (e_2 rfl rfl rfl)) fun h => e_B (e_2 (hix (by have := of_decide_eq_true h; omega)) (e_2 rfl rfl (hx k hk)) (ge_one _ _))) (fun hb => ?_) (fun hb => wp_next ?_)
        · refine wp_ret (d := .bl false) rfl ?_
          rw [Bool.and_eq_true, decide_eq_true_eq, decide_eq_true_eq] at hb
          rw [alph_false hk (by rw [goodAt_low hk, hlow, decide_eq_false (by omega), decide_eq_false (by omega)]; rfl)]
          rfl
        · refine ⟨?_, _, rfl⟩
          rw [List.range_succ, List.all_append, hd]
          show (true && (goodAt w k && true)) = true
          rw [goodAt_low hk, hlow]
          by_cases h0 : k = 0
          · rw [decide_eq_true h0]; rfl
          · rw [decide_eq_true (show (0 : Int) < (k : Nat) by omega), Bool.true_and] at hb
            have := of_decide_eq_false hb
            rw [decide_eq_true (show (w[k - 1]'(by omega)).val < w[k].val by omega)]
            simp
    · rintro c ⟨hd, y, rfl⟩
      refine wp_ret (d := .bl true) rfl ?_
      unfold isAlphB
      rw [h26, hd]
      rfl
theorem law_alphabet_runB (w : Tx) (hl : w.length ≤ 1000000) : m__law_is_alphabet A [alD w] = some (.val (.bl (isAlphB w))) := by
  have hs : 16000000 ≤ sizeLine := by unfold sizeLine; omega
  refine m_val rfl ?_
  have ll : ∀ c : VL.Env, gLook 0 c = some (alD w) → gCall fLen (VL.gCons (gLook 0) VL.gNil) c = some (.int (w.length : Nat)) := fun c h => e_lenX h (by omega)
  refine wp_seq (wp_if (b := decide (((w.length : Nat) : Int) < 1) || decide ((26 : Int) < (w.length : Nat))) (e_or (e_B (e_2 (ll _ rfl) rfl rfl)) fun _ => e_B (e_2 (ll _ rfl) rfl rfl)) (fun hb => ?_) (fun hb => wp_next ?_))
  · refine wp_ret (d := .bl false) rfl ?_
    unfold isAlphB
    rw [show (decide (1 ≤ w.length) && decide (w.length ≤ 26)) = false by
      rw [Bool.or_eq_true, decide_eq_true_eq, decide_eq_true_eq] at hb
      rw [Bool.eq_false_iff, Ne, Bool.and_eq_true, decide_eq_true_eq, decide_eq_true_eq]
      omega]
    rfl
  · have h26 : (decide (1 ≤ w.length) && decide (w.length ≤ 26)) = true := by
      rw [Bool.or_eq_false_iff, decide_eq_false_iff_not, decide_eq_false_iff_not] at hb
      rw [Bool.and_eq_true, decide_eq_true_eq, decide_eq_true_eq]
      omega
    refine wp_seq (wp_for (ds := rgD 0 w.length) (e_rg1 (n := (w.length : Nat)) (e_cons (ll _ rfl) rfl) (by omega) (by omega)) ?_)
    refine wpl_rg (fun k c => (List.range k).all (goodAt w) = true ∧ ∃ y, c = [some (.fz (alD w)), y]) ⟨rfl, none, rfl⟩ ?_ ?_
    · rintro k c hk ⟨hd, y, rfl⟩
      have hx : ∀ (j : Nat) (hj : j < w.length), dIx (alD w) (nD j) = some (lD w[j]) := fun j hj => ix_al (by omega) (List.getElem?_eq_getElem hj)
      refine ⟨_, rfl, ?_⟩
      have hix : 0 < k → VL.g2 dIx (gLook 0) (VL.g2 dSub (gLook 1) (gC (.int 1))) [some (.fz (alD w)), some (.fz (nD k))] = some (lD (w[k - 1]'(by omega))) := fun h0 => by
        refine e_2 rfl (e_2 (x := nD k) rfl rfl (z := nD (k - 1)) ?_) (hx (k - 1) (by omega))
        show some (D.int ((k : Int) - 1)) = _
        congr 2
        omega
      refine wp_if (b := !isLow w[k] || (decide ((0 : Int) < (k : Nat)) && decide (w[k].val ≤ (w[k - 1]'(by omega)).val))) (e_or (e_B (e_2 (e_2 rfl rfl (hx k hk)) rfl (notIn_low _))) fun _ => e_and (e_B (e_2 rfl rfl rfl)) fun h => e_B (e_2 (hix (by have := of_decide_eq_true h; omega)) (e_2 rfl rfl (hx k hk)) (ge_one _ _))) (fun hb => ?_) (fun hb => wp_next ?_)
      · refine wp_ret (d := .bl false) rfl ?_
        rw [alph_false hk (by
          rw [goodAt_low hk]
          cases hlow : isLow w[k] with
          | false => rfl
          | true =>
            rw [hlow, Bool.not_true, Bool.false_or, Bool.and_eq_true, decide_eq_true_eq, decide_eq_true_eq] at hb
            rw [decide_eq_false (by omega), decide_eq_false (by omega)]
            rfl)]
        rfl
      · refine ⟨?_, _, rfl⟩
        rw [Bool.or_eq_false_iff] at hb
        have hlow : isLow w[k] = true := by simpa using hb.1
        rw [List.range_succ, List.all_append, hd]
        show (true && (goodAt w k && true)) = true
        rw [goodAt_low hk, hlow]
        by_cases h0 : k = 0
        · rw [decide_eq_true h0]; rfl
        · have hb2 := hb.2
          rw [decide_eq_true (show (0 : Int) < (k : Nat) by omega), Bool.true_and] at hb2
          have := of_decide_eq_false hb2
          rw [decide_eq_true (show (w[k - 1]'(by omega)).val < w[k].val by omega)]
          simp
    · rintro c ⟨hd, y, rfl⟩
      refine wp_ret (d := .bl true) rfl ?_
      unfold isAlphB
      rw [h26, hd]
      rfl
/-! the first line -/
def gw : Tx := [103, 114, 97, 109, 109, 97, 114]
def progH (line : Tx) : Option (Tx × Nat) := match sp [32] line with
  | [w0, w1, w2, w3] => if w0 = gw ∧ w2 = [58] ∧ isAlphB w1 = true then match readN w3 with
      | some n => if 1 ≤ n then some (w1, n) else none
      | none => none
    else none
  | _ => none
def lawH (line : Tx) : Option (Tx × Nat) := match sp [32] line with
  | [w0, w1, w2, w3] => if isAlphB w1 = true then match lawN w3 with
      | some n => if 1 ≤ n ∧ line = headT w1 n then some (w1, n) else none
      | none => none
    else none
  | _ => none
theorem head_join (al : Tx) (n : Nat) : headT al n = joinT [32] [gw, al, [58], decT n] := by
  show tG ++ al ++ tC ++ decT n = gw ++ ([32] ++ (al ++ ([32] ++ ([58] ++ ([32] ++ decT n)))))
  simp [tG, tC, gw]
theorem head_sp {al : Tx} {n : Nat} (hal : LowA al) : sp [32] (headT al n) = [gw, al, [58], decT n] := by
  rw [head_join]
  refine sp_back (by simp) fun w hw => ?_
  simp at hw
  rcases hw with rfl | rfl | rfl | rfl
  · decide
  · intro h
    have := hal 32 h
    revert this; decide
  · decide
  · intro h
    have := dec_dig n 32 h
    revert this; decide
theorem head_both (line : Tx) : (∃ al n, lawH line = some (al, n) ∧ progH line = some (al, n) ∧ isAlphB al = true ∧ 1 ≤ n ∧ n < 10 ^ 9 ∧ line = headT al n) ∨ (lawH line = none ∧ progH line = none) := by
  have of : ∀ al n, isAlphB al = true → 1 ≤ n → n < 10 ^ 9 → line = headT al n → lawH line = some (al, n) ∧ progH line = some (al, n) := by
    intro al n h1 h2 h3 h4
    have hs : sp [32] line = [gw, al, [58], decT n] := by rw [h4]; exact head_sp (alph_low h1).1
    unfold lawH progH
    rw [hs]
    simp only []
    rw [if_pos h1, if_pos (by first | exact ⟨rfl, rfl, h1⟩ | exact ⟨trivial, trivial, h1⟩), (readN_dec h3).1, (readN_dec h3).2]
    simp only []
    rw [if_pos ⟨h2, h4⟩, if_pos h2]
    exact ⟨rfl, rfl⟩
  cases h : lawH line with
  | some p =>
    obtain ⟨al, n⟩ := p
    left
    have h0 := h
    unfold lawH at h0
    split at h0
    · split at h0
      · rename_i ha
        split at h0
        · rename_i m hm
          split at h0
          · rename_i q
            cases h0
            have h3 := lawN_lt hm
            exact ⟨al, n, rfl, (of _ _ ha q.1 h3 q.2).2, ha, q.1, h3, q.2⟩
          · cases h0
        · cases h0
      · cases h0
    · cases h0
  | none =>
    right
    refine ⟨rfl, ?_⟩
    cases h2 : progH line with
    | none => rfl
    | some p =>
      exfalso
      obtain ⟨al, n⟩ := p
      have h0 := h2
      unfold progH at h0
      split at h0
      · rename_i w0 w1 w2 w3 hsp
        split at h0
        · rename_i q
          split at h0
          · rename_i m hm
            split at h0
            · rename_i hm1
              cases h0
              obtain ⟨e1, e2, _⟩ := readN_back hm
              have hj := sp_join (s := [32]) (x := line) (by simp)
              have : line = headT al n := by
                rw [← hj, hsp, q.1, q.2.1, ← e1, head_join]
              have := (of _ _ q.2.2 hm1 e2 this).1
              rw [h] at this
              cases this
            · cases h0
          · cases h0
        · cases h0
      · cases h0
def optH : Option (Tx × Nat) → D
  | some (al, n) => .tup [alD al, .int (n : Nat)]
  | none => .non
theorem four_of {α : Type} {xs : List α} (h : xs.length = 4) : ∃ a b c d, xs = [a, b, c, d] := by
  match xs, h with
  | [a, b, c, d], _ => exact ⟨a, b, c, d, rfl⟩
theorem read_head_run (line : Tx) (hl : line.length ≤ 500000) : m_read_grammar_head A [alD line] = some (.val (optH (progH line))) := by
  have hs : 16000000 ≤ sizeLine := by unfold sizeLine; omega
  have hws := sp_short (s := [32]) (x := line) (by simp)
  unfold progH
  generalize hW : sp [32] line = ws at hws
  refine m_val rfl ?_
  refine wp_seq (wp_set (d := .lst (ws.map alD)) (e_lst (by rw [← hW]; exact e_split (x := line) (s := [32]) rfl rfl (by simp) (by omega))) ?_)
  have hlen : ∀ c : VL.Env, gLook 1 c = some (.lst (ws.map alD)) → gCall fLen (VL.gCons (gLook 1) VL.gNil) c = some (.int (ws.length : Nat)) := fun c h => e_lenM (e := alD) (xs := ws) h
  by_cases h4 : ws.length = 4
  · obtain ⟨w0, w1, w2, w3, rfl⟩ := four_of h4
    have x0 : ∀ c : VL.Env, gLook 1 c = some (.lst ([w0, w1, w2, w3].map alD)) → VL.g2 dIx (gLook 1) (gC (.int 0)) c = some (alD w0) := fun c h => e_2 h rfl (ix_map (e := alD) (xs := [w0, w1, w2, w3]) (k := 0) rfl rfl)
    have x1 : ∀ c : VL.Env, gLook 1 c = some (.lst ([w0, w1, w2, w3].map alD)) → VL.g2 dIx (gLook 1) (gC (.int 1)) c = some (alD w1) := fun c h => e_2 h rfl (ix_map (e := alD) (xs := [w0, w1, w2, w3]) (k := 1) rfl rfl)
    have x2 : ∀ c : VL.Env, gLook 1 c = some (.lst ([w0, w1, w2, w3].map alD)) → VL.g2 dIx (gLook 1) (gC (.int 2)) c = some (alD w2) := fun c h => e_2 h rfl (ix_map (e := alD) (xs := [w0, w1, w2, w3]) (k := 2) rfl rfl)
    have x3 : ∀ c : VL.Env, gLook 1 c = some (.lst ([w0, w1, w2, w3].map alD)) → VL.g2 dIx (gLook 1) (gC (.int 3)) c = some (alD w3) := fun c h => e_2 h rfl (ix_map (e := alD) (xs := [w0, w1, w2, w3]) (k := 3) rfl rfl)
    have ha := is_alphabet_runB A w1 (by have := hws w1 (by simp); omega)
    refine wp_seq (wp_if (b := false || (!decide (w0 = gw) || (!decide (w2 = [58]) || !isAlphB w1))) (e_or (a := false) (e_B (e_2 (hlen _ rfl) rfl rfl)) fun _ => e_or (e_B (e_2 (x0 _ rfl) (y := alD gw) rfl (Emb.tx.ne (by decide) _ _))) fun _ => e_or (e_B (e_2 (x2 _ rfl) (y := alD [58]) rfl (Emb.tx.ne (by decide) _ _))) fun _ => e_not (e_tru (e_fn (ds := [alD w1]) (e_cons (x1 _ rfl) rfl) ha) rfl)) (fun hb => ?_) (fun hb => wp_next ?_))
    · refine wp_ret (d := .non) rfl ?_
      show _ = some (Res.val (optH (if w0 = gw ∧ w2 = [58] ∧ isAlphB w1 = true then _ else none)))
      rw [if_neg (fun q => by rw [decide_eq_true q.1, decide_eq_true q.2.1, q.2.2] at hb; cases hb)]
      rfl
    · have hc : w0 = gw ∧ w2 = [58] ∧ isAlphB w1 = true := by
        simp only [Bool.false_or, Bool.or_eq_false_iff, Bool.not_eq_false', decide_eq_true_eq] at hb
        exact ⟨hb.1, hb.2.1, hb.2.2⟩
      show Wp _ _ (fun o => outRes (some o) = some (Res.val (optH (if w0 = gw ∧ w2 = [58] ∧ isAlphB w1 = true then _ else none))))
      rw [if_pos hc]
      refine wp_seq (wp_set (d := optI (readN w3)) (e_fn (ds := [alD w3]) (e_cons (x3 _ rfl) rfl) (read_number_run A w3 (by have := hws w3 (by simp); omega))) ?_)
      cases h0 : readN w3 with
      | none => exact wp_seq (wp_ift (by rfl) (wp_ret (d := .non) rfl rfl))
      | some n =>
        refine wp_seq (wp_if (b := false || decide ((n : Int) < 1)) (e_or (e_B (e_2 rfl rfl rfl)) fun _ => e_B (e_2 rfl rfl rfl)) (fun hb => ?_) (fun hb => wp_next ?_))
        · refine wp_ret (d := .non) rfl ?_
          show _ = some (Res.val (optH (if 1 ≤ n then some (w1, n) else none)))
          rw [if_neg (by simp at hb; omega)]
          rfl
        · refine wp_ret (d := .tup [alD w1, .int (n : Nat)]) (e_tup (e_cons (x1 _ rfl) (e_cons rfl rfl)) (by show 2 ≤ sizeLine; omega)) ?_
          show _ = some (Res.val (optH (if 1 ≤ n then some (w1, n) else none)))
          rw [if_pos (by simp at hb; omega)]
          rfl
  · refine wp_seq (wp_ift ?_ (wp_ret (d := .non) rfl ?_))
    · have := e_or (p := gB (g2 dNe (gCall fLen (VL.gCons (gLook 1) VL.gNil)) (gC (.int 4)))) (q := gOr (gB (g2 dNe (g2 dIx (gLook 1) (gC (.int 0))) (gC (.str "grammar")))) (gOr (gB (g2 dNe (g2 dIx (gLook 1) (gC (.int 2))) (gC (.str ":")))) (gNot (gTru (gFn (m_is_alphabet A) (VL.gCons (g2 dIx (gLook 1) (gC (.int 1))) VL.gNil)))))) (c := [some (.fz (alD line)), some (.fz (.lst (ws.map alD))), none]) (a := true) (b := true) (e_B (e_2 (hlen _ rfl) rfl (by rw [Emb.int.ne (by decide), decide_eq_false (by omega)]; rfl))) (fun h => by cases h)
      exact this
    · split
      · simp at h4
      · rfl
end K43
end

section
namespace K43
open PySem PySem.Spec PyProof.Rows L2 VL
variable (A : Ad)
/-! the lines behind the first -/
def lost {α β : Type} (f : α → Option β) : List α → Nat
  | [] => 0
  | x :: xs => match f x with
    | some _ => lost f xs + 1
    | none => 0
theorem lost_at {α β : Type} {f : α → Option β} : ∀ (done : List α) (ys : List β) (x : α) (rest : List α), mapO f done = some ys → f x = none → lost f (done ++ x :: rest) = done.length
  | [], ys, x, rest, _, h => by
    show (match f x with | some _ => _ | none => 0) = _
    rw [h]; rfl
  | a :: done, ys, x, rest, hd, h => by
    rw [mapO_cons] at hd
    split at hd
    · rename_i b hb
      split at hd
      · rename_i zs hz
        show (match f a with | some _ => lost f (done ++ x :: rest) + 1 | none => 0) = _
        rw [hb]
        simp only []
        rw [lost_at done zs x rest hz h]
        rfl
      · cases hd
    · cases hd
theorem mapO_mem {α β : Type} {f : α → Option β} : ∀ {xs : List α} {ys : List β}, mapO f xs = some ys → ∀ y ∈ ys, ∃ x ∈ xs, f x = some y
  | [], ys, h => by cases h; simp
  | a :: xs, ys, h => by
    rw [mapO_cons] at h
    split at h
    · rename_i b hb
      split at h
      · rename_i zs hz
        cases h
        intro y hy
        rcases List.mem_cons.mp hy with q | q
        · exact ⟨a, by simp, by rw [q]; exact hb⟩
        · obtain ⟨x, h1, h2⟩ := mapO_mem hz y q
          exact ⟨x, by simp [h1], h2⟩
      · cases h
    · cases h
theorem mapO_take {α β : Type} {f : α → Option β} {xs : List α} {k : Nat} (hk : k < xs.length) {ys : List β} (h : mapO f (xs.take k) = some ys) {y : β} (hy : f xs[k] = some y) : mapO f (xs.take (k + 1)) = some (ys ++ [y]) := by
  rw [List.take_succ, List.getElem?_eq_getElem hk]
  exact mapO_app h _ _ hy
theorem take_split {α : Type} {xs : List α} {k : Nat} (hk : k < xs.length) : xs = xs.take k ++ xs[k] :: xs.drop (k + 1) := by
  conv => lhs; rw [← List.take_append_drop k xs]
  rw [List.drop_eq_getElem_cons hk]
theorem e_rg2 {c : VL.Env} {gs : GA} {i j : Int} (h : gs c = some [.int i, .int j]) (h1 : -(2 ^ 62) ≤ i ∧ i < 2 ^ 62 ∧ -(2 ^ 62) ≤ j ∧ j < 2 ^ 62) : gRg2 gs c = some (rgD i (j - i).toNat) := by
  unfold gRg2
  rw [h]
  exact if_pos h1
theorem ix_i {d : D} {ds : List D} {k : Nat} {x : D} (hd : d.items = some ds) (h : ds[k]? = some x) (i : Int) (hi : i = (k : Int)) : dIx d (.int i) = some x := by
  rw [hi]; exact d_ix hd h
inductive Told where
  | bad (k : Nat)
  | good (al : Tx) (v : Nat) (rs : List Rule)
def toldOf (x : Tx) : Told := match sp [10] x with
  | l0 :: ls => match lawH l0 with
    | some (al, v) => match mapO (lawR al v) ls with
      | some rs => .good al v rs
      | none => .bad (lost (lawR al v) ls + 1)
    | none => .bad 0
  | [] => .bad 0
def dueD : Told → D
  | .bad k => .tup [.str "line", .int (k : Nat)]
  | .good al v rs => .tup [.str "grammar", alD al, .int (v : Nat), .lst (rs.map rD)]
def resP : Told → Res
  | .bad k => .exn A.C_BadLine ["index"] [.int (k : Nat)]
  | .good al v rs => .val (gD A al v rs)
/-- what a good text holds -/
structure Good (x : Tx) (al : Tx) (v : Nat) (rs : List Rule) : Prop where
  alok : isAlphB al = true
  v1 : 1 ≤ v
  v2 : v < 10 ^ 9
  ok : ∀ r ∈ rs, okRule al v r = true ∧ r.1.length + r.2.length ≤ 2 * x.length + 3
  tx : x = gramT al v rs
theorem told_good {x al : Tx} {v : Nat} {rs : List Rule} (h : toldOf x = .good al v rs) : Good x al v rs := by
  unfold toldOf at h
  split at h
  · rename_i l0 ls hsp
    split at h
    · rename_i a n hh
      split at h
      · rename_i r hr
        cases h
        rcases head_both l0 with ⟨al2, v2, e1, e2, e3, e4, e5, e6⟩ | ⟨e1, _⟩
        · rw [hh] at e1
          cases e1
          have hj := sp_join (s := [10]) (x := x) (by simp)
          have hsh := sp_short (s := [10]) (x := x) (by simp)
          rw [hsp] at hj hsh
          refine ⟨e3, e4, e5, fun r hr2 => ?_, ?_⟩
          · obtain ⟨l, hl, hlr⟩ := mapO_mem hr r hr2
            obtain ⟨h1, h2⟩ := lawR_text hlr
            refine ⟨h1, ?_⟩
            rcases both_read (line := l) (al := al) (v := v) (alph_low e3).1 (by omega) with ⟨r', q1, q2, _, _⟩ | ⟨q1, _⟩
            · rw [hlr] at q1
              cases q1
              have := progR_small q2
              have := hsh l (by simp [hl])
              omega
            · rw [hlr] at q1; cases q1
          · have e7 : rs.map ruleT = ls := mapO_back (f := lawR al v) (g := ruleT) (fun l r hl => (lawR_text hl).2.symm) hr
            rw [← hj, e6]
            show joinT [10] (headT al v :: ls) = joinT [10] (linesT al v rs)
            unfold linesT
            rw [e7]
        · rw [hh] at e1; cases e1
      · cases h
    · cases h
  · cases h
theorem good_told {x al : Tx} {v : Nat} {rs : List Rule} (h1 : isAlphB al = true) (h2 : 1 ≤ v) (h3 : v < 10 ^ 9) (h4 : ∀ r ∈ rs, okRule al v r = true) : toldOf (gramT al v rs) = .good al v rs := by
  have hal := (alph_low h1).1
  have hsp : sp [10] (gramT al v rs) = linesT al v rs := by
    unfold gramT
    refine sp_back (by simp [linesT]) fun w hw => ?_
    unfold linesT at hw
    rcases List.mem_cons.mp hw with q | q
    · rw [q]
      unfold headT
      simp only [List.mem_append, not_or]
      refine ⟨⟨⟨by decide, fun h => ?_⟩, by decide⟩, fun h => ?_⟩
      · have := hal 10 h
        revert this; decide
      · have := dec_dig v 10 h
        revert this; decide
    · obtain ⟨r, hr, rfl⟩ := List.mem_map.mp q
      obtain ⟨s1, s2, _, _⟩ := okRule_parts (h4 r hr)
      unfold ruleT
      simp only [List.mem_append, not_or]
      exact ⟨⟨side_free hal s1 (by decide) (by decide) (by decide), by decide⟩, side_free hal s2 (by decide) (by decide) (by decide)⟩
  have hh : lawH (headT al v) = some (al, v) := by
    rcases head_both (headT al v) with ⟨al2, v2, e1, e2, e3, e4, e5, e6⟩ | ⟨e1, _⟩
    · have := head_sp (al := al) (n := v) hal
      have h5 := head_sp (al := al2) (n := v2) (alph_low e3).1
      rw [← e6, this] at h5
      injection h5 with _ h5
      injection h5 with h6 h5
      injection h5 with _ h5
      injection h5 with h7 _
      rw [e1, ← h6, dec_inj h7]
    · exfalso
      unfold lawH at e1
      rw [head_sp hal] at e1
      simp only [] at e1
      rw [if_pos h1, (readN_dec h3).2] at e1
      simp only [] at e1
      rw [if_pos ⟨h2, trivial⟩] at e1
      cases e1
  unfold toldOf
  rw [hsp]
  unfold linesT
  simp only []
  rw [hh]
  simp only []
  have hm : mapO (lawR al v) (rs.map ruleT) = some rs := mapO_of fun r hr => lawR_of hal (by omega) (h4 r hr)
  rw [hm]
theorem told_h0 {x l0 : Tx} {ls : List Tx} (h : sp [10] x = l0 :: ls) (h1 : lawH l0 = none) : toldOf x = .bad 0 := by
  unfold toldOf
  rw [h]
  show (match lawH l0 with | some (al, v) => _ | none => _) = _
  rw [h1]
theorem told_hr {x l0 al : Tx} {ls : List Tx} {v : Nat} (h : sp [10] x = l0 :: ls) (h1 : lawH l0 = some (al, v)) (h2 : mapO (lawR al v) ls = none) : toldOf x = .bad (lost (lawR al v) ls + 1) := by
  unfold toldOf
  rw [h]
  show (match lawH l0 with | some (al, v) => _ | none => _) = _
  rw [h1]
  show (match mapO (lawR al v) ls with | some rs => _ | none => _) = _
  rw [h2]
theorem told_hg {x l0 al : Tx} {ls : List Tx} {v : Nat} {rs : List Rule} (h : sp [10] x = l0 :: ls) (h1 : lawH l0 = some (al, v)) (h2 : mapO (lawR al v) ls = some rs) : toldOf x = .good al v rs := by
  unfold toldOf
  rw [h]
  show (match lawH l0 with | some (al, v) => _ | none => _) = _
  rw [h1]
  show (match mapO (lawR al v) ls with | some rs => _ | none => _) = _
  rw [h2]
theorem lawH_len {l : Tx} (h : (sp [32] l).length ≠ 4) : lawH l = none := by
  unfold lawH
  split
  · rename_i q
    rw [q] at h
    exact absurd rfl h
  · rfl
theorem lawH_al {l w0 al w2 w3 : Tx} (h : sp [32] l = [w0, al, w2, w3]) (h1 : isAlphB al = false) : lawH l = none := by
  unfold lawH
  rw [h]
  simp only []
  rw [if_neg (by rw [h1]; simp)]
theorem lawH_n {l w0 al w2 w3 : Tx} (h : sp [32] l = [w0, al, w2, w3]) (h1 : isAlphB al = true) (h2 : lawN w3 = none) : lawH l = none := by
  unfold lawH
  rw [h]
  simp only []
  rw [if_pos h1, h2]
theorem lawH_v {l w0 al w2 w3 : Tx} {v : Nat} (h : sp [32] l = [w0, al, w2, w3]) (h1 : isAlphB al = true) (h2 : lawN w3 = some v) (h3 : ¬(1 ≤ v ∧ l = headT al v)) : lawH l = none := by
  unfold lawH
  rw [h]
  simp only []
  rw [if_pos h1, h2]
  simp only []
  rw [if_neg h3]
theorem lawH_g {l w0 al w2 w3 : Tx} {v : Nat} (h : sp [32] l = [w0, al, w2, w3]) (h1 : isAlphB al = true) (h2 : lawN w3 = some v) (h3 : 1 ≤ v ∧ l = headT al v) : lawH l = some (al, v) := by
  unfold lawH
  rw [h]
  simp only []
  rw [if_pos h1, h2]
  simp only []
  rw [if_pos h3]
theorem parse_run (x : Tx) (hx : x.length ≤ 40000) : m_parse_grammar A [alD x] = some (resP A (toldOf x)) := by
  have hs : 16000000 ≤ sizeLine := by unfold sizeLine; omega
  have hln := sp_len (s := [10]) (x := x) (by simp)
  have hsh := sp_short (s := [10]) (x := x) (by simp)
  have hne := sp_ne (s := [10]) (x := x) (by simp)
  obtain ⟨lines, hW⟩ : ∃ w, sp [10] x = w := ⟨_, rfl⟩
  rw [hW] at hln hsh hne
  refine m_val rfl ?_
  refine wp_seq (wp_set (d := .lst (lines.map alD)) (e_lst (by rw [← hW]; exact e_split (x := x) (s := [10]) rfl rfl (by simp) (by omega))) ?_)
  cases lines with
  | nil => exact absurd rfl hne
  | cons l0 ls =>
    have hl0 := hsh l0 (by simp)
    simp at hln
    refine wp_seq (wp_set (d := optH (progH l0)) (e_fn (ds := [alD l0]) (e_cons (e_2 rfl rfl (ix_map (e := alD) (xs := l0 :: ls) (k := 0) rfl rfl)) rfl) (read_head_run A l0 (by omega))) ?_)
    rcases head_both l0 with ⟨al, v, e1, e2, e3, e4, e5, e6⟩ | ⟨e1, e2⟩
    · rw [e2]
      have hal := (alph_low e3).1
      refine wp_seq (wp_iff rfl (wp_next ?_))
      refine wp_seq (wp_asg (d := .tup [alD al, .int (v : Nat)]) rfl rfl ?_)
      refine wp_seq (wp_asgN (ds := ([] : List Rule).map rD) rfl ?_)
      let tl : VL.Env := [some (.fz (alD x)), some (.fz (.lst ((l0 :: ls).map alD))), some (.fz (optH (some (al, v)))), some (.fz (alD al)), some (.fz (.int (v : Nat)))]
      refine wp_seq (wp_for (ds := rgD 1 ls.length) ?_ ?_)
      · have := e_rg2 (c := tl ++ [some (.own (([] : List Rule).map rD)), none, none]) (gs := VL.gCons (gC (.int 1)) (VL.gCons (gCall fLen (VL.gCons (gLook 1) VL.gNil)) VL.gNil)) (i := 1) (j := ((l0 :: ls).length : Nat)) (e_cons rfl (e_cons (e_lenM (e := alD) (xs := l0 :: ls) rfl) rfl)) ⟨by omega, by omega, by omega, by simp; omega⟩
        rw [show (((l0 :: ls).length : Nat) - 1 : Int).toNat = ls.length by simp] at this
        exact this
      refine wpl_rgA (fun k c => ∃ (rs : List Rule) (y6 y7 : Option Cell), mapO (lawR al v) (ls.take k) = some rs ∧ c = tl ++ [some (.own (rs.map rD)), y6, y7]) ⟨[], none, none, rfl, rfl⟩ ?_ ?_
      · rintro k c hk ⟨rs, y6, y7, hd, rfl⟩
        refine ⟨_, rfl, ?_⟩
        have hlk : ls[k].length ≤ 40000 := by have := hsh ls[k] (by simp); omega
        have hix : dIx (.lst ((l0 :: ls).map alD)) (.int (1 + (k : Int))) = some (alD ls[k]) := by
          refine ix_i (ds := (l0 :: ls).map alD) (k := k + 1) rfl ?_ _ (by omega)
          simp [hk]
        refine wp_seq (wp_set (d := optR (progR ls[k])) (e_fn (ds := [alD ls[k]]) (e_cons (e_2 rfl rfl hix) rfl) (read_rule_run A ls[k] (by omega))) ?_)
        have hrl := mapO_len hd
        rw [List.length_take] at hrl
        rcases both_read (line := ls[k]) (al := al) (v := v) hal (by omega) with ⟨r, q1, q2, q3, q4⟩ | ⟨q1, q2⟩
        · rw [q2]
          have hsm := progR_small q2
          have hisr := is_rule_run A al v r.1 r.2 (by omega)
          have q3' : okRule al v (r.1, r.2) = true := q3
          rw [q3'] at hisr
          have i0 : ∀ c : VL.Env, gLook 7 c = some (rD r) → VL.g2 dIx (gLook 7) (gC (.int 0)) c = some (fD r.1) := fun c h => e_2 h rfl (ix_map (e := fD) (xs := [r.1, r.2]) (k := 0) rfl rfl)
          have i1 : ∀ c : VL.Env, gLook 7 c = some (rD r) → VL.g2 dIx (gLook 7) (gC (.int 1)) c = some (fD r.2) := fun c h => e_2 h rfl (ix_map (e := fD) (xs := [r.1, r.2]) (k := 1) rfl rfl)
          refine wp_seq (wp_iff (e_or (a := false) (b := false) (e_B (e_2 rfl rfl rfl)) fun _ => e_not (a := true) (e_tru (e_fn (ds := [fD r.1, fD r.2, alD al, .int (v : Nat)]) (e_cons (i0 _ rfl) (e_cons (i1 _ rfl) (e_cons rfl (e_cons rfl rfl)))) hisr) rfl)) (wp_next ?_))
          refine wp_append (ds := rs.map rD) (d := rD r) rfl rfl (by simp; omega) ?_
          exact ⟨rs ++ [r], _, _, mapO_take hk hd q1, by rw [List.map_append]; rfl⟩
        · have hno : mapO (lawR al v) ls = none := by
            rw [take_split hk]
            exact mapO_none _ _ _ q1
          have hlost : lost (lawR al v) ls = k := by
            conv => lhs; rw [take_split hk]
            rw [lost_at _ _ _ _ hd q1, List.length_take]
            omega
          rw [told_hr hW e1 hno, hlost]
          refine wp_seq (wp_ift ?_ (wp_raise1 (y := .int (1 + (k : Int))) (e_cons rfl rfl) ?_))
          · rcases q2 with q2 | ⟨r, q2, q3⟩
            · rw [q2]; rfl
            · rw [q2]
              have hsm := progR_small q2
              have hisr := is_rule_run A al v r.1 r.2 (by omega)
              have q3' : okRule al v (r.1, r.2) = false := q3
              rw [q3'] at hisr
              have i0 : ∀ c : VL.Env, gLook 7 c = some (rD r) → VL.g2 dIx (gLook 7) (gC (.int 0)) c = some (fD r.1) := fun c h => e_2 h rfl (ix_map (e := fD) (xs := [r.1, r.2]) (k := 0) rfl rfl)
              have i1 : ∀ c : VL.Env, gLook 7 c = some (rD r) → VL.g2 dIx (gLook 7) (gC (.int 1)) c = some (fD r.2) := fun c h => e_2 h rfl (ix_map (e := fD) (xs := [r.1, r.2]) (k := 1) rfl rfl)
              exact e_or (a := false) (b := true) (e_B (e_2 rfl rfl rfl)) fun _ => e_not (a := false) (e_tru (e_fn (ds := [fD r.1, fD r.2, alD al, .int (v : Nat)]) (e_cons (i0 _ rfl) (e_cons (i1 _ rfl) (e_cons rfl (e_cons rfl rfl)))) hisr) rfl)
          · show some (Res.exn A.C_BadLine ["index"] [.int (1 + (k : Int))]) = some (Res.exn A.C_BadLine ["index"] [.int ((k + 1 : Nat) : Int)])
            congr 4
            omega
      · rintro c ⟨rs, y6, y7, hd, rfl⟩
        rw [List.take_length] at hd
        have hT := told_hg hW e1 hd
        rw [hT]
        have hgood : Good x al v rs := told_good hT
        have hrl := mapO_len hd
        have hG := Grammar_run A al v rs (by have := is_alphabet_runB A al (by have := (alph_low e3).2.2; omega); rw [e3] at this; exact this) (by omega) (fun r hr => ⟨(hgood.ok r hr).1, by have := (hgood.ok r hr).2; omega⟩) (by omega)
        exact wp_ret (d := gD A al v rs) (e_make (ds := [alD al, .int (v : Nat), .lst (rs.map rD)]) rfl hG) rfl
    · rw [told_h0 hW e1, e2]
      exact wp_seq (wp_ift rfl (wp_raise1 (y := .int 0) rfl rfl))
theorem law_read_run (x : Tx) (hx : x.length ≤ 40000) : m__law_read A [alD x] = some (.val (dueD (toldOf x))) := by
  have hs : 16000000 ≤ sizeLine := by unfold sizeLine; omega
  have hln := sp_len (s := [10]) (x := x) (by simp)
  have hsh := sp_short (s := [10]) (x := x) (by simp)
  have hne := sp_ne (s := [10]) (x := x) (by simp)
  obtain ⟨lines, hW⟩ : ∃ w, sp [10] x = w := ⟨_, rfl⟩
  rw [hW] at hln hsh hne
  refine m_val rfl ?_
  refine wp_seq (wp_set (d := .lst (lines.map alD)) (e_lst (by rw [← hW]; exact e_split (x := x) (s := [10]) rfl rfl (by simp) (by omega))) ?_)
  cases lines with
  | nil => exact absurd rfl hne
  | cons l0 ls =>
    have hl0 := hsh l0 (by simp)
    simp at hln
    have x00 : ∀ c : VL.Env, gLook 1 c = some (.lst ((l0 :: ls).map alD)) → VL.g2 dIx (gLook 1) (gC (.int 0)) c = some (alD l0) := fun c h => e_2 h rfl (ix_map (e := alD) (xs := l0 :: ls) (k := 0) rfl rfl)
    have hws := sp_short (s := [32]) (x := l0) (by simp)
    -- the first line is bad
    have bad0 : outRes (some (Out.ret (.tup [.str "line", .int 0]))) = some (Res.val (dueD (.bad 0))) := rfl
    have ret0 : ∀ {c : VL.Env} {P : Out → Prop}, P (.ret (.tup [.str "line", .int 0])) → Wp (gRet (VL.gTup (VL.gCons (gC (.str "line")) (VL.gCons (gC (.int 0)) VL.gNil)))) c P := fun h => wp_ret (e_tup rfl (by show 2 ≤ sizeLine; omega)) h
    obtain ⟨ws, hW2⟩ : ∃ w, sp [32] l0 = w := ⟨_, rfl⟩
    rw [hW2] at hws
    refine wp_seq (wp_set (d := .lst (ws.map alD)) (e_lst (by rw [← hW2]; exact e_split (x := l0) (s := [32]) (x00 _ rfl) rfl (by simp) (by omega))) ?_)
    have hlen : ∀ c : VL.Env, gLook 2 c = some (.lst (ws.map alD)) → gCall fLen (VL.gCons (gLook 2) VL.gNil) c = some (.int (ws.length : Nat)) := fun c h => e_lenM (e := alD) (xs := ws) h
    by_cases h4 : ws.length = 4
    · obtain ⟨w0, al, w2, w3, rfl⟩ := four_of h4
      have x1 : ∀ c : VL.Env, gLook 2 c = some (.lst ([w0, al, w2, w3].map alD)) → VL.g2 dIx (gLook 2) (gC (.int 1)) c = some (alD al) := fun c h => e_2 h rfl (ix_map (e := alD) (xs := [w0, al, w2, w3]) (k := 1) rfl rfl)
      have x3 : ∀ c : VL.Env, gLook 2 c = some (.lst ([w0, al, w2, w3].map alD)) → VL.g2 dIx (gLook 2) (gC (.int 3)) c = some (alD w3) := fun c h => e_2 h rfl (ix_map (e := alD) (xs := [w0, al, w2, w3]) (k := 3) rfl rfl)
      have hall : al.length ≤ 40000 := by have := hws al (by simp); omega
      have ha := law_alphabet_runB A al (by omega)
      refine wp_seq (wp_if (b := false || !isAlphB al) (e_or (a := false) (e_B (e_2 (hlen _ rfl) rfl rfl)) fun _ => e_not (e_tru (e_fn (ds := [alD al]) (e_cons (x1 _ rfl) rfl) ha) rfl)) (fun hb => ?_) (fun hb => wp_next ?_))
      · refine ret0 ?_
        rw [told_h0 hW (lawH_al hW2 (by simpa using hb))]
        exact bad0
      · have e3 : isAlphB al = true := by simpa using hb
        have hal := (alph_low e3).1
        refine wp_seq (wp_set (d := optI (lawN w3)) (e_fn (ds := [alD w3]) (e_cons (x3 _ rfl) rfl) (law_number_run A w3 (by have := hws w3 (by simp); omega))) ?_)
        cases h0 : lawN w3 with
        | none =>
          rw [told_h0 hW (lawH_n hW2 e3 h0)]
          exact wp_seq (wp_ift (by rfl) (ret0 bad0))
        | some v =>
          have e5 := lawN_lt h0
          have hdl := dec_len (n := v) (k := 9) (by decide) e5
          have ft : Fit al v [] := ⟨by omega, by simp, by
            show (joinT [10] [headT al v]).length ≤ _
            show (tG ++ al ++ tC ++ decT v).length ≤ _
            have : tG.length = 8 := rfl
            have : tC.length = 3 := rfl
            simp only [List.length_append]
            omega⟩
          have hwr := written_run A al v [] ft
          have hgt : gramT al v [] = headT al v := rfl
          rw [hgt] at hwr
          refine wp_seq (wp_if (b := false || (decide ((v : Int) < 1) || !decide (l0 = headT al v))) (e_or (e_B (e_2 rfl rfl rfl)) fun _ => e_or (e_B (e_2 rfl rfl rfl)) fun _ => e_B (e_2 (x00 _ rfl) (e_fn (ds := [alD al, .int (v : Nat), .lst (([] : List Rule).map rD)]) (e_cons (x1 _ rfl) (e_cons rfl (e_cons (e_lst (e_ln rfl (by show 0 ≤ sizeLine; omega))) rfl))) hwr) (Emb.tx.ne (by decide) _ _))) (fun hb => ?_) (fun hb => wp_next ?_))
          · refine ret0 ?_
            rw [told_h0 hW (lawH_v hW2 e3 h0 (fun q => by rw [decide_eq_true q.2, decide_eq_false (by omega)] at hb; cases hb))]
            exact bad0
          · have e4 : 1 ≤ v ∧ l0 = headT al v := by
              rw [Bool.false_or, Bool.or_eq_false_iff, decide_eq_false_iff_not, Bool.not_eq_false', decide_eq_true_eq] at hb
              exact ⟨by omega, hb.2⟩
            have hH := lawH_g hW2 e3 h0 e4
            refine wp_seq (wp_asgN (ds := ([] : List Rule).map rD) rfl ?_)
            let tl : VL.Env := [some (.fz (alD x)), some (.fz (.lst ((l0 :: ls).map alD))), some (.fz (.lst ([w0, al, w2, w3].map alD))), some (.fz (.int (v : Nat)))]
            refine wp_seq (wp_for (ds := rgD 1 ls.length) ?_ ?_)
            · have := e_rg2 (c := tl ++ [some (.own (([] : List Rule).map rD)), none, none]) (gs := VL.gCons (gC (.int 1)) (VL.gCons (gCall fLen (VL.gCons (gLook 1) VL.gNil)) VL.gNil)) (i := 1) (j := ((l0 :: ls).length : Nat)) (e_cons rfl (e_cons (e_lenM (e := alD) (xs := l0 :: ls) rfl) rfl)) ⟨by omega, by omega, by omega, by simp; omega⟩
              rw [show (((l0 :: ls).length : Nat) - 1 : Int).toNat = ls.length by simp] at this
              exact this
            refine wpl_rgA (fun k c => ∃ (rs : List Rule) (y5 y6 : Option Cell), mapO (lawR al v) (ls.take k) = some rs ∧ c = tl ++ [some (.own (rs.map rD)), y5, y6]) ⟨[], none, none, rfl, rfl⟩ ?_ ?_
            · rintro k c hk ⟨rs, y5, y6, hd, rfl⟩
              refine ⟨_, rfl, ?_⟩
              have hlk : ls[k].length ≤ 40000 := by have := hsh ls[k] (by simp); omega
              have hix : dIx (.lst ((l0 :: ls).map alD)) (.int (1 + (k : Int))) = some (alD ls[k]) := by
                refine ix_i (ds := (l0 :: ls).map alD) (k := k + 1) rfl ?_ _ (by omega)
                simp [hk]
              have hrl := mapO_len hd
              rw [List.length_take] at hrl
              refine wp_seq (wp_set (d := optR (lawR al v ls[k])) (e_fn (ds := [alD ls[k], alD al, .int (v : Nat)]) (e_cons (e_2 rfl rfl hix) (e_cons (x1 _ rfl) (e_cons rfl rfl))) (law_read_rule_run A al ls[k] v (by omega))) ?_)
              refine wp_seq (wp_if (b := (lawR al v ls[k]).isNone) (e_B (e_2 rfl rfl (is_optR _))) (fun hb => ?_) (fun hb => wp_next ?_))
              · have q1 : lawR al v ls[k] = none := by simpa using hb
                have hno : mapO (lawR al v) ls = none := by
                  rw [take_split hk]
                  exact mapO_none _ _ _ q1
                have hlost : lost (lawR al v) ls = k := by
                  conv => lhs; rw [take_split hk]
                  rw [lost_at _ _ _ _ hd q1, List.length_take]
                  omega
                refine wp_ret (d := .tup [.str "line", .int (1 + (k : Int))]) (e_tup rfl (by show 2 ≤ sizeLine; omega)) ?_
                rw [told_hr hW hH hno, hlost]
                show some (Res.val (.tup [.str "line", .int (1 + (k : Int))])) = some (Res.val (.tup [.str "line", .int ((k + 1 : Nat) : Int)]))
                congr 6
                omega
              · cases q1 : lawR al v ls[k] with
                | none => rw [q1] at hb; cases hb
                | some r =>
                  refine wp_append (ds := rs.map rD) (d := rD r) rfl rfl (by simp; omega) ?_
                  exact ⟨rs ++ [r], _, _, mapO_take hk hd q1, by rw [List.map_append]; rfl⟩
            · rintro c ⟨rs, y5, y6, hd, rfl⟩
              rw [List.take_length] at hd
              rw [told_hg hW hH hd]
              refine wp_ret (d := .tup [.str "grammar", alD al, .int (v : Nat), .lst (rs.map rD)]) (e_tup (e_cons rfl (e_cons (x1 _ rfl) (e_cons rfl (e_cons rfl rfl)))) (by show 4 ≤ sizeLine; omega)) rfl
    · refine wp_seq (wp_ift ?_ (ret0 ?_))
      · have := e_or (p := gB (g2 dNe (gCall fLen (VL.gCons (gLook 2) VL.gNil)) (gC (.int 4)))) (q := gNot (gTru (gFn (m__law_is_alphabet A) (VL.gCons (g2 dIx (gLook 2) (gC (.int 1))) VL.gNil)))) (c := [some (.fz (alD x)), some (.fz (.lst ((l0 :: ls).map alD))), some (.fz (.lst (ws.map alD))), none, none, none, none]) (a := true) (b := true) (e_B (e_2 (hlen _ rfl) rfl (by rw [Emb.int.ne (by decide), decide_eq_false (by omega)]; rfl))) (fun h => by cases h)
        exact this
      · rw [told_h0 hW (lawH_len (by rw [hW2]; exact h4))]
        exact bad0
end K43
end

section
namespace K43
open PySem PySem.Spec PyProof.Rows L2 VL
variable (A : Ad)
theorem law_whole_run (i : Int) : m__law_whole A [.int i] = some (.val (.bl true)) := rfl
theorem sy_ne (s : Sy) : dNe s.D s.D = some (.bl false) := by have := Emb.sy.ne (by decide) s s; simpa using this
theorem int_ne (i : Int) : dNe (.int i) (.int i) = some (.bl false) := by have := Emb.int.ne (by decide) i i; simpa using this
theorem tx_ne (x : Tx) : dNe (alD x) (alD x) = some (.bl false) := by have := Emb.tx.ne (by decide) x x; simpa using this
theorem int_eq (i : Int) : dEq (.int i) (.int i) = some (.bl true) := by have := Emb.int.eq (by decide) i i; simpa using this
theorem tx_eq (x : Tx) : dEq (alD x) (alD x) = some (.bl true) := by have := Emb.tx.eq (by decide) x x; simpa using this
theorem rules_eq (rs : List Rule) : dEq (.tup (rs.map rD)) (.tup (rs.map rD)) = some (.bl true) := by have := (Emb.rule.tup).eq (by decide) rs rs; simpa using this
theorem side_alike_run (f : Form) (hf : f.length < 100000) : m__law_side_alike A [fD f, fD f] = some (.val (.bl true)) := by
  refine m_val rfl ?_
  have hl : ∀ (i : Nat) (c : VL.Env), gLook i c = some (fD f) → gCall fLen (VL.gCons (gLook i) VL.gNil) c = some (.int (f.length : Nat)) := fun i c h => lenF h
  refine wp_seq (wp_iff (e_or (a := false) (b := false) rfl fun _ => e_B (e_2 (hl 0 _ rfl) (hl 1 _ rfl) (int_ne _))) (wp_next ?_))
  refine wp_seq (wp_for (ds := rgD 0 f.length) ?_ ?_)
  · have := e_rgLen (c := VL.envOf 3 [fD f, fD f]) (g := gLook 1) (d := fD f) rfl (.inr (.inl rfl)) (by simpa using hf)
    rw [List.length_map] at this
    exact this
  refine wpl_rg (fun k c => ∃ y, c = [some (.fz (fD f)), some (.fz (fD f)), y]) ⟨none, rfl⟩ ?_ ?_
  · rintro k c hk ⟨y, rfl⟩
    refine ⟨_, rfl, ?_⟩
    have hx : dIx (fD f) (.int (k : Nat)) = some f[k].D := ix_map rfl (List.getElem?_eq_getElem hk)
    generalize f[k] = s at hx
    have h0 : ∀ (i : Nat), i < 2 → VL.g2 dIx (gLook i) (gLook 2) [some (.fz (fD f)), some (.fz (fD f)), some (.fz (.int (k : Nat)))] = some s.D := fun i hi => by
      have : i = 0 ∨ i = 1 := by omega
      rcases this with rfl | rfl <;> exact e_2 rfl rfl hx
    have hne : gB (VL.g2 dNe (VL.g2 dIx (gLook 0) (gLook 2)) (VL.g2 dIx (gLook 1) (gLook 2))) [some (.fz (fD f)), some (.fz (fD f)), some (.fz (.int (k : Nat)))] = some false := e_B (e_2 (h0 0 (by decide)) (h0 1 (by decide)) (sy_ne s))
    have hi : ∀ i, i < 2 → gIsi "str" (VL.g2 dIx (gLook i) (gLook 2)) [some (.fz (fD f)), some (.fz (fD f)), some (.fz (.int (k : Nat)))] = some (.bl (!isV s)) := fun i hi => by
      unfold gIsi
      rw [h0 i hi]
      cases s <;> rfl
    refine wp_if (b := !isV s) (e_tru (hi 1 (by decide)) rfl) (fun hb => ?_) (fun hb => ?_)
    · refine wp_iff (e_or (a := false) (b := false) (e_not (a := true) (e_tru (hi 0 (by decide)) ?_)) fun _ => hne) (wp_next ⟨_, rfl⟩)
      rw [hb]; rfl
    · have : ∃ i, s = .v i := by
        cases s with
        | v i => exact ⟨i, rfl⟩
        | l c => cases hb
      obtain ⟨i, rfl⟩ := this
      exact wp_iff (e_or (a := false) (b := false) (e_not (a := true) (e_tru (e_fn (ds := [.int i]) (e_cons (h0 0 (by decide)) rfl) (law_whole_run A i)) rfl)) fun _ => hne) (wp_next ⟨_, rfl⟩)
  · rintro c ⟨y, rfl⟩
    exact wp_ret (d := .bl true) rfl rfl
theorem isC_run {c : VL.Env} {g : GE} {al : Tx} {v : Int} {rs : List Rule} (h : g c = some (gD A al v rs)) : gIsC A.C_Grammar g c = some (.bl true) := by
  unfold gIsC
  rw [h]
  exact if_pos rfl
theorem f_al {c : VL.Env} {g : GE} {al : Tx} {v : Int} {rs : List Rule} (h : g c = some (gD A al v rs)) : gFld A.C_Grammar "alphabet" g c = some (alD al) := e_fld h rfl
theorem f_v {c : VL.Env} {g : GE} {al : Tx} {v : Int} {rs : List Rule} (h : g c = some (gD A al v rs)) : gFld A.C_Grammar "variables" g c = some (.int v) := e_fld h rfl
theorem f_rs {c : VL.Env} {g : GE} {al : Tx} {v : Int} {rs : List Rule} (h : g c = some (gD A al v rs)) : gFld A.C_Grammar "rules" g c = some (.tup (rs.map rD)) := e_fld h rfl
theorem isi_of {c : VL.Env} {g : GE} {d : D} {t : String} {b : D} (h : g c = some d) (hb : dIsi t d = some b) : gIsi t g c = some b := by
  unfold gIsi
  rw [h]; exact hb
theorem kept_run (al : Tx) (v : Int) (rs : List Rule) (hl : rs.length < 90000) (hs : ∀ r ∈ rs, r.1.length < 100000 ∧ r.2.length < 100000) :
    m__law_kept A [gD A al v rs, alD al, .int v, .lst (rs.map rD)] = some (.val (.bl true)) := by
  refine m_val rfl ?_
  let env (y4 y5 : Option Cell) : VL.Env := [some (.fz (gD A al v rs)), some (.fz (alD al)), some (.fz (.int v)), some (.fz (.lst (rs.map rD))), y4, y5]
  refine wp_seq (wp_iff (e_or (a := false) (b := false) (e_not (a := true) (e_tru (isC_run A (al := al) (v := v) (rs := rs) rfl) rfl)) fun _ => e_or (a := false) (b := false) (e_not (a := true) (e_tru (isi_of (f_al A (al := al) (v := v) (rs := rs) rfl) rfl) rfl)) fun _ => e_B (e_2 (f_al A (al := al) (v := v) (rs := rs) rfl) rfl (tx_ne al))) (wp_next ?_))
  refine wp_seq (wp_iff (e_or (a := false) (b := false) (e_not (a := true) (e_tru (e_fn (ds := [.int v]) (e_cons (f_v A (al := al) (v := v) (rs := rs) rfl) rfl) (law_whole_run A v)) rfl)) fun _ => e_B (e_2 (f_v A (al := al) (v := v) (rs := rs) rfl) rfl (int_ne v))) (wp_next ?_))
  refine wp_seq (wp_iff (e_or (a := false) (b := false) (e_not (a := true) (e_tru (isi_of (f_rs A (al := al) (v := v) (rs := rs) rfl) rfl) rfl)) fun _ => e_B (e_2 (x := .int (rs.length : Nat)) (y := .int (rs.length : Nat)) (e_lenT (e := rD) (xs := rs) (f_rs A (al := al) (v := v) (rs := rs) rfl)) (e_lenM (e := rD) (xs := rs) rfl) (int_ne _))) (wp_next ?_))
  refine wp_seq (wp_for (ds := rgD 0 rs.length) (e_rgM (e := rD) (xs := rs) rfl (by omega)) ?_)
  refine wpl_rg (fun k c => ∃ y4 y5, c = env y4 y5) ⟨none, none, rfl⟩ ?_ ?_
  · rintro k c hk ⟨y4, y5, rfl⟩
    refine ⟨_, rfl, ?_⟩
    obtain ⟨s1, s2⟩ := hs rs[k] (List.getElem_mem _)
    have x0 : dIx (.tup (rs.map rD)) (.int (k : Nat)) = some (rD rs[k]) := ix_map rfl (List.getElem?_eq_getElem hk)
    have x1 : dIx (.lst (rs.map rD)) (.int (k : Nat)) = some (rD rs[k]) := ix_map rfl (List.getElem?_eq_getElem hk)
    generalize rs[k] = r at x0 x1 s1 s2
    refine wp_seq (wp_set (d := rD r) (e_2 (f_rs A (al := al) (v := v) (rs := rs) rfl) rfl x0) ?_)
    refine wp_seq (wp_iff (e_or (a := false) (b := false) rfl fun _ => e_B (e_2 (x := .int 2) (y := .int 2) rfl rfl (int_ne 2))) (wp_next ?_))
    have p0 : ∀ {c : VL.Env} {g : GE}, g c = some (rD r) → VL.g2 dIx g (gC (.int 0)) c = some (fD r.1) := fun h => e_2 h rfl (ix_map (e := fD) (xs := [r.1, r.2]) (k := 0) rfl rfl)
    have p1 : ∀ {c : VL.Env} {g : GE}, g c = some (rD r) → VL.g2 dIx g (gC (.int 1)) c = some (fD r.2) := fun h => e_2 h rfl (ix_map (e := fD) (xs := [r.1, r.2]) (k := 1) rfl rfl)
    refine wp_iff (e_or (a := false) (b := false) (e_not (a := true) (e_tru (e_fn (ds := [fD r.1, fD r.1]) (e_cons (p0 rfl) (e_cons (p0 (e_2 rfl rfl x1)) rfl)) (side_alike_run A r.1 s1)) rfl)) fun _ => e_not (a := true) (e_tru (e_fn (ds := [fD r.2, fD r.2]) (e_cons (p1 rfl) (e_cons (p1 (e_2 rfl rfl x1)) rfl)) (side_alike_run A r.2 s2)) rfl)) (wp_next ⟨_, _, rfl⟩)
  · rintro c ⟨y4, y5, rfl⟩
    exact wp_ret (d := .bl true) rfl rfl
theorem eq_run (al : Tx) (v : Int) (rs : List Rule) : m_Grammar_eq A [gD A al v rs, gD A al v rs] = some (.val (.bl true)) := by
  refine m_val rfl ?_
  exact wp_ret (d := .bl true) (e_bl (e_and (a := true) (b := true) (e_B (isC_run A (al := al) (v := v) (rs := rs) rfl)) fun _ => e_B (e_bl (e_and (a := true) (b := true) (e_B (e_2 (f_al A (al := al) (v := v) (rs := rs) rfl) (f_al A (al := al) (v := v) (rs := rs) rfl) (tx_eq al))) fun _ => e_B (e_bl (e_and (a := true) (b := true) (e_B (e_2 (f_v A (al := al) (v := v) (rs := rs) rfl) (f_v A (al := al) (v := v) (rs := rs) rfl) (int_eq v))) fun _ => e_B (e_2 (f_rs A (al := al) (v := v) (rs := rs) rfl) (f_rs A (al := al) (v := v) (rs := rs) rfl) (rules_eq rs)))))))) rfl
theorem formatted_run (al : Tx) (v : Nat) (rs : List Rule) (ft : Fit al v rs) : m__law_formatted A [gD A al v rs, alD (gramT al v rs)] = some (.val (.bl true)) := by
  refine m_val rfl ?_
  refine wp_seq (wp_set (d := alD (gramT al v rs)) (e_fn (ds := [gD A al v rs]) rfl (format_run A al v rs ft)) ?_)
  exact wp_ret (d := .bl true) (e_bl (e_and (a := true) (b := true) rfl fun _ => e_B (e_2 rfl rfl (tx_eq _)))) rfl
def askD : Told → D
  | .bad k => .tup [.str "line", .int (k : Nat)]
  | .good al v rs => .tup [.str "grammar", gD A al v rs]
theorem parsed_run (x : Tx) (hx : x.length ≤ 40000) : m__law_parsed A [alD x] = some (.val (askD A (toldOf x))) := by
  have hs : 1000000 ≤ sizeLine := by unfold sizeLine; omega
  have hP := parse_run A x hx
  let env : VL.Env := [some (.fz (alD x)), none, none]
  have hp : gCallR (m_parse_grammar A) (VL.gCons (gVar 0) VL.gNil) (frzAll env) = m_parse_grammar A [alD x] := rfl
  refine m_val rfl ?_
  cases hT : toldOf x with
  | good al v rs =>
    rw [hT] at hP
    exact wp_tryG_ret (d := .tup [.str "grammar", gD A al v rs]) (y_retV (x_tup (x_cons (x_val rfl) (x_cons (hp.trans hP) x_nil)) (by show 2 ≤ sizeLine; omega))) rfl
  | bad k =>
    rw [hT] at hP
    refine wp_tryG_ex (c1 := frzAll env) (C := A.C_BadLine) (ns := ["index"]) (es := [.int (k : Nat)]) (y_retX (x_tupX (x_consR (x_val rfl) (x_consX (hp.trans hP))))) rfl ?_
    refine wp_seq (wp_set (d := .lst [.bl false, .bl false, .bl false, .bl false]) (e_lst (e_ln (e_cons (e_isX rfl) (e_cons (e_isX rfl) (e_cons (e_isX rfl) (e_cons (e_isX rfl) rfl)))) (by show 4 ≤ sizeLine; omega))) ?_)
    refine wp_seq (wp_set (d := .lst [.bl false, .bl false, .bl false, .bl false, .bl false, .bl false]) (e_2 (f := dAdd) (x := D.lst [D.bl false, D.bl false, D.bl false, D.bl false]) (y := D.lst [D.bl false, D.bl false]) rfl (e_lst (e_ln (e_cons (e_isX rfl) (e_cons (e_isX rfl) rfl)) (by show 2 ≤ sizeLine; omega))) ?_) ?_)
    · exact add_lst (e := D.bl) (xs := [false, false, false, false]) (ys := [false, false]) (by show 6 ≤ sizeLine; omega)
    refine wp_seq (wp_iff (e_or (a := false) (b := false) (e_not (a := true) (e_tru (e_isX rfl) rfl)) fun _ => e_or (a := false) (b := false) (e_not (a := true) (e_tru (e_isX rfl) rfl)) fun _ => e_B (e_2 (e_2 (z := .int 0) rfl rfl rfl) rfl rfl)) (wp_next ?_))
    exact wp_ret (d := .tup [.str "line", .int (k : Nat)]) (e_tup (e_cons rfl (e_cons (e_xf rfl rfl) rfl)) (by show 2 ≤ sizeLine; omega)) ⟨_, rfl, rfl⟩
theorem eqO_run {c : VL.Env} {ga gb : GE} {al : Tx} {v : Int} {rs : List Rule} (h1 : ga c = some (gD A al v rs)) (h2 : gb c = some (gD A al v rs)) : gEqO A.C_Grammar (m_Grammar_eq A) ga gb c = some (.bl true) := by
  unfold gEqO
  rw [h1]
  show (match gb c with | some e => _ | none => none) = _
  rw [h2]
  show (if A.C_Grammar = A.C_Grammar ∧ D.same (gD A al v rs) (gD A al v rs) = true then match m_Grammar_eq A [gD A al v rs, gD A al v rs] with | some (Res.val (D.bl true)) => some (D.bl true) | _ => none else none) = _
  rw [if_pos ⟨rfl, D.same_refl _⟩, eq_run]
theorem good_fit {x al : Tx} {v : Nat} {rs : List Rule} (hg : Good x al v rs) (hx : x.length ≤ 40000) (hs : ∀ r ∈ rs, NN r.1 ∧ NN r.2) : Fit al v rs := ⟨by have := hg.v2; omega, hs, by rw [← hg.tx]; omega⟩
theorem syms_nn {al : Tx} {v : Nat} {f : Form} (hv : v < 10 ^ 9) (h : Syms al v f) : NN f := fun s hs i hi => by
  subst hi
  have := okSy_n (h _ hs)
  omega
theorem read_alike_run (x : Tx) (hx : x.length ≤ 40000) : m__law_read_alike A [alD x] = some (.val (.bl true)) := by
  refine m_val rfl ?_
  refine wp_seq (wp_set (d := dueD (toldOf x)) (e_fn (ds := [alD x]) rfl (law_read_run A x hx)) ?_)
  refine wp_seq (wp_set (d := askD A (toldOf x)) (e_fn (ds := [alD x]) rfl (parsed_run A x hx)) ?_)
  cases hT : toldOf x with
  | bad k =>
    refine wp_seq (wp_iff rfl (wp_next ?_))
    refine wp_seq (wp_ift rfl ?_)
    exact wp_ret (d := .bl true) (e_bl (e_and (a := true) (b := true) (e_B (e_fn (ds := [.int (k : Nat)]) rfl (law_whole_run A k))) fun _ => e_B (e_2 (x := .int (k : Nat)) (y := .int (k : Nat)) rfl rfl (int_eq k)))) rfl
  | good al v rs =>
    have hg := told_good hT
    have hal := (alph_low hg.alok)
    have hok : ∀ r ∈ rs, NN r.1 ∧ NN r.2 := fun r hr => by
      obtain ⟨s1, s2, _, _⟩ := okRule_parts (hg.ok r hr).1
      exact ⟨syms_nn hg.v2 s1, syms_nn hg.v2 s2⟩
    have ft := good_fit hg hx hok
    have hrl : rs.length ≤ 40001 := by
      have := (lines_le (al := al) (v := v) (rs := rs) (by rw [← hg.tx]; omega)).1
      have h1 := joinT_len2 [10] (ys := linesT al v rs) (by simp [linesT])
      have h2 : (joinT [10] (linesT al v rs)).length = x.length := by rw [hg.tx]; rfl
      have h3 : (linesT al v rs).length = rs.length + 1 := by simp [linesT]
      have h4 : (linesT al v rs).length * ([10] : Tx).length = (linesT al v rs).length := Nat.mul_one _
      have h5 : ([10] : Tx).length = 1 := rfl
      omega
    have hG := Grammar_run A al v rs (by have := is_alphabet_runB A al (by omega); rw [hg.alok] at this; exact this) (by have := hg.v1; omega) (fun r hr => ⟨(hg.ok r hr).1, by have := (hg.ok r hr).2; omega⟩) (by omega)
    have hk := kept_run A al v rs (by omega) (fun r hr => by have := (hg.ok r hr).2; omega)
    have hf := formatted_run A al v rs ft
    rw [← hg.tx] at hf
    refine wp_seq (wp_iff rfl (wp_next ?_))
    refine wp_seq (wp_iff rfl (wp_next ?_))
    refine wp_seq (wp_iff (e_not (a := true) (e_tru (e_fn (ds := [gD A al v rs, alD al, .int v, .lst (rs.map rD)]) rfl hk) rfl)) (wp_next ?_))
    refine wp_seq (wp_set (d := .bl true) (eqO_run A (al := al) (v := v) (rs := rs) rfl (e_make rfl hG)) ?_)
    exact wp_ret (d := .bl true) (e_bl (e_and (a := true) (b := true) rfl fun _ => e_B (e_bl (e_and (a := true) (b := true) rfl fun _ => e_B (e_fn (ds := [gD A al v rs, alD x]) rfl hf))))) rfl
end K43
end

section
namespace K43
open PySem PySem.Spec PyProof.Rows L2 VL
variable (A : Ad)
theorem digits_run (n : Int) (sz : List Int) (hs : ∀ s ∈ sz, 0 < s ∧ s < 2 ^ 200) (hl : sz.length < 10000) : ∃ ds : List Int, m__law_digits A [.int n, .lst (iD sz)] = some (.val (.lst (iD ds))) ∧ Dig ds sz := digI_run n sz hs hl
theorem lcell_run (xs : List Int) (k : Nat) (hk : k < 1000) : ∃ n : Int, m__law_cell A [.scr (iD xs), .int (k : Nat)] = some (.val (.int n)) := cell_run xs k hk
theorem e_draw {c : VL.Env} {xs : List Int} {k : Nat} {sz : List Int} {ge gs : GE} (hk : k < 1000) (h0 : gVar 0 c = some (.scr (iD xs))) (h1 : ge c = some (.int (k : Nat))) (h2 : gs c = some (.lst (iD sz))) (hs : ∀ s ∈ sz, 0 < s ∧ s < 2 ^ 200) (hl : sz.length < 10000) :
    ∃ row, gFn (m__law_digits A) (VL.gCons (gFn (m__law_cell A) (VL.gCons (gVar 0) (VL.gCons ge VL.gNil))) (VL.gCons gs VL.gNil)) c = some (.lst (iD row)) ∧ Dig row sz := by
  obtain ⟨n, hn⟩ := lcell_run A xs k hk
  obtain ⟨row, h3, h4⟩ := digits_run A n sz hs hl
  exact ⟨row, e_fn (e_cons (e_fn (e_cons h0 (e_cons h1 rfl)) hn) (e_cons h2 rfl)) h3, h4⟩
theorem okSy_v {al : List Lt} {v i : Int} (h1 : 0 ≤ i) (h2 : i < v) : okSy al v (.v i) = true := by
  show (decide (0 ≤ i) && decide (i < v)) = true
  rw [decide_eq_true h1, decide_eq_true h2]
  rfl
theorem okRule_of {al : List Lt} {v : Int} {l r : Form} (h1 : ∀ s ∈ l, okSy al v s = true) (h2 : ∀ s ∈ r, okSy al v s = true) (h3 : l.any isV = true) : okRule al v (l, r) = true := by
  unfold okRule
  rw [Bool.and_eq_true, List.all_eq_true]
  refine ⟨fun s hs => ?_, h3⟩
  rcases List.mem_append.mp hs with h | h
  · exact h1 s h
  · exact h2 s h
theorem dig_iD {sz row : List Int} (h : Dig row sz) : ∃ ns : List Nat, row = ns.map fun (n : Nat) => (n : Int) := by
  refine ⟨row.map Int.toNat, ?_⟩
  rw [List.map_map]
  refine (List.map_id' row).symm.trans ?_
  refine List.map_congr_left fun x hx => ?_
  obtain ⟨i, hi, rfl⟩ := List.mem_iff_getElem.mp hx
  have := h.2 i row[i] (sz[i]'(by rw [← h.1]; exact hi)) (List.getElem?_eq_getElem hi) (List.getElem?_eq_getElem _)
  show row[i] = ((row[i].toNat : Nat) : Int)
  omega
theorem iD_part {row : List Int} {ns : List Nat} (h : row = ns.map fun (n : Nat) => (n : Int)) (p m : Nat) : dCut (.lst (iD row)) (some (p : Int)) (some ((p : Int) + (m : Nat))) = some (.lst (((ns.drop p).take m).map nD)) := by
  have h1 := cutL_any (e := D.int) (xs := row) p m
  rw [show (iD row) = row.map D.int from rfl, h1, h, ← List.map_drop, ← List.map_take, List.map_map]
  rfl
/-! the alphabet -/
def Sub (sub : List Nat) : Prop := sub.Pairwise (· < ·) ∧ ∀ k ∈ sub, k < 26
def chs (sub : List Nat) : List Tx := sub.map fun k => [ltr k]
theorem sub_take {sub : List Nat} (h : Sub sub) (n : Nat) : Sub (sub.take n) := ⟨h.1.sublist (List.take_sublist _ _), fun k hk => h.2 k (List.mem_of_mem_take hk)⟩
theorem alphB_of {sub : List Nat} (h : Sub sub) (h0 : sub ≠ []) : isAlphB (sub.map ltr) = true := by
  have hl := sub_len h.1 h.2
  have hp : 0 < sub.length := List.length_pos_iff.mpr h0
  unfold isAlphB
  rw [decide_eq_true (by rw [List.length_map]; omega), decide_eq_true (by rw [List.length_map]; omega), List.all_eq_true.mpr]
  · rfl
  · intro k hk
    have hk2 : k < (sub.map ltr).length := List.mem_range.mp hk
    rw [goodAt_low hk2]
    rw [List.length_map] at hk2
    have v1 := ltr_val (h.2 _ (List.getElem_mem hk2))
    rw [Bool.and_eq_true]
    refine ⟨?_, ?_⟩
    · show (decide (97 ≤ ((sub.map ltr)[k]).val) && decide (((sub.map ltr)[k]).val ≤ 122)) = true
      rw [List.getElem_map, v1]
      have := h.2 _ (List.getElem_mem hk2)
      simp
      omega
    · by_cases hk0 : k = 0
      · simp [hk0]
      · have v2 := ltr_val (h.2 _ (List.getElem_mem (show k - 1 < sub.length by omega)))
        have := List.pairwise_iff_getElem.mp h.1 (k - 1) k (by omega) hk2 (by omega)
        rw [Bool.or_eq_true]
        right
        rw [List.getElem_map, List.getElem_map, v1, v2]
        simp
        omega
theorem alphabet_run (n : Int) : ∃ al, m__law_alphabet A [.int n] = some (.val (alD al)) ∧ isAlphB al = true := by
  have hs : 16000000 ≤ sizeLine := by unfold sizeLine; omega
  have key : ∃ d, m__law_alphabet A [.int n] = some (.val d) ∧ ∃ al, d = alD al ∧ isAlphB al = true := by
    refine m_ex rfl ?_
    let sz : List Int := [6] ++ (List.replicate 26 [3]).flatten
    obtain ⟨row, h1, hd⟩ := digits_run A n sz (by decide) (by decide)
    refine wp_seq (wp_set (d := .lst (iD row)) (e_fn (ds := [.int n, .lst (iD sz)]) (e_cons rfl (e_cons (e_lst (e_cat (a := iD [6]) (b := iD (List.replicate 26 [3]).flatten) (e_lst (e_ln rfl (by show 1 ≤ sizeLine; omega))) (e_2 (x := .lst (iD [3])) (e_lst (e_ln rfl (by show 1 ≤ sizeLine; omega))) rfl (mul_iD [3] 26 (by decide) (by decide))) (by show 1 + 26 ≤ sizeLine; omega))) rfl)) h1) ?_)
    obtain ⟨d0, q0, l0⟩ := row_at hd 0 rfl
    refine wp_seq (wp_set (d := alD every26) (by show some _ = some _; rw [every_eq]) ?_)
    let q : Nat → Bool := fun k => decide (row.getD (k + 1) 0 = 0)
    let sub : List Nat := (List.range 26).filter q
    have hsub : Sub sub := ⟨List.Pairwise.filter _ List.pairwise_lt_range, fun k hk => List.mem_range.mp (List.mem_filter.mp hk).1⟩
    refine wp_seq (wp_set (d := .lst ((chs sub).map alD)) (e_lst ?_) ?_)
    · unfold chs
      rw [List.map_map]
      refine e_lcF (e := nD) (h := alD ∘ fun k => [ltr k]) (xs := List.range 26) (q := q) ?_ (by simp; omega) fun k hk => ?_
      · rw [← rg_nD]
        exact e_rg1 (n := 26) rfl (by decide) (by decide)
      · have hk2 : k < 26 := List.mem_range.mp hk
        refine ⟨_, rfl, ?_, fun _ => ?_⟩
        · obtain ⟨dk, qk, lk⟩ := dig_at hd (i := k + 1) (s := 3) ((show ∀ i, i < 26 → ([6] ++ (List.replicate 26 [(3 : Int)]).flatten)[i + 1]? = some 3 by decide) k hk2)
          have hq : q k = decide ((dk : Int) = 0) := by
            show decide (row.getD (k + 1) 0 = 0) = _
            unfold List.getD
            rw [qk]
            rfl
          rw [hq]
          exact e_B (e_2 (e_2 rfl rfl (ix_i (ds := iD row) (k := k + 1) rfl (by unfold iD; rw [List.getElem?_map, qk]; rfl) _ rfl)) rfl (Emb.int.eq (by decide) _ _))
        · exact e_2 rfl rfl (ix_al (x := every26) (by show 26 ≤ sizeLine; omega) (every_at hk2))
    have b0 : ∀ (c : VL.Env) (j : Int), gLook 1 c = some (.lst (iD row)) → gB (VL.g2 dEq (VL.g2 dIx (gLook 1) (gC (.int 0))) (gC (.int j))) c = some (decide ((d0 : Int) = j)) := fun c j h => e_B (e_2 (e_2 h rfl q0) rfl (Emb.int.eq (by decide) _ _))
    refine wp_seq (wp_if (b := decide ((d0 : Int) = 5)) (b0 _ 5 rfl) (fun _ => wp_ret (d := alD every26) rfl ⟨_, rfl, _, rfl, alphB_of (sub := List.range 26) ⟨List.pairwise_lt_range, fun k hk => List.mem_range.mp hk⟩ (by decide)⟩) (fun _ => wp_next ?_))
    let E (s : List Nat) : VL.Env := [some (.fz (.int n)), some (.fz (.lst (iD row))), some (.fz (alD every26)), some (.fz (.lst ((chs s).map alD))), none]
    have lift : ∀ {P : Out → Prop} {s : List Nat}, Sub s → (∀ s, Sub s → s ≠ [] → P (.nx (E s))) → s ≠ [] → P (.nx (E s)) := fun h1 h2 h3 => h2 _ h1 h3
    refine wp_seq (Wp.mono (P := fun o => ∃ s, Sub s ∧ s ≠ [] ∧ o = .nx (E s)) (wp_if (b := decide (((chs sub).length : Int) = 0)) (e_B (e_2 (e_lenM (e := alD) (xs := chs sub) rfl) rfl (Emb.int.eq (by decide) _ _))) (fun _ => wp_set (d := .lst ((chs [10]).map alD)) (e_lst (e_ln rfl (by show 1 ≤ sizeLine; omega))) ⟨[10], ⟨by simp, by simp⟩, by simp, rfl⟩) (fun hb => wp_next ⟨sub, hsub, fun h => by rw [h] at hb; simp [chs] at hb, rfl⟩)) ?_)
    rintro o ⟨s, hS, hn, rfl⟩
    have cut : ∀ (s : List Nat) (k : Nat) (kI : Int), kI = (k : Nat) → gCut (gVar 3) (fun _ => some none) (gPart (gC (.int kI))) (E s) = some (.lst ((chs (s.take k)).map alD)) := fun s k kI hk => by
      subst hk
      have := cutL_pre (e := alD) (xs := chs s) k
      unfold chs at this
      rw [← List.map_take] at this
      exact e_cut rfl rfl (e_part rfl) this
    have tk : ∀ {s : List Nat} {k : Nat}, s ≠ [] → 0 < k → s.take k ≠ [] := fun h hk h2 => by
      have h3 := congrArg List.length h2
      rw [List.length_take] at h3
      have h4 := List.length_pos_iff.mpr h
      have h5 : ([] : List Nat).length = 0 := rfl
      omega
    refine wp_seq (Wp.mono (P := fun o => ∃ s, Sub s ∧ s ≠ [] ∧ o = .nx (E s)) (wp_if (b := decide ((d0 : Int) = 0)) (b0 _ 0 rfl) (fun _ => wp_set (cut s 1 1 rfl) ⟨s.take 1, sub_take hS 1, tk hn (by decide), rfl⟩) (fun hb => wp_next ⟨s, hS, hn, rfl⟩)) ?_)
    rintro o ⟨s, hS, hn, rfl⟩
    refine wp_seq (Wp.mono (P := fun o => ∃ s, Sub s ∧ s ≠ [] ∧ o = .nx (E s)) (wp_if (b := decide ((d0 : Int) = 1) || decide ((d0 : Int) = 2)) (e_or (b0 _ 1 rfl) fun _ => b0 _ 2 rfl) (fun _ => wp_set (cut s 3 3 rfl) ⟨s.take 3, sub_take hS 3, tk hn (by decide), rfl⟩) (fun hb => wp_next ⟨s, hS, hn, rfl⟩)) ?_)
    rintro o ⟨s, hS, hn, rfl⟩
    have e : (chs s).flatten = s.map ltr := by
      unfold chs
      clear hS hn
      induction s with
      | nil => rfl
      | cons a b ih => simp [ih]
    have hj := dJoin_al (chs s) (by rw [e, List.length_map]; have := sub_len hS.1 hS.2; omega)
    rw [e] at hj
    exact wp_ret (d := alD (s.map ltr)) (e_2 rfl rfl hj) ⟨_, rfl, _, rfl, alphB_of hS hn⟩
  obtain ⟨d, h1, al, rfl, h2⟩ := key
  exact ⟨al, h1, h2⟩
/-! symbols and rules -/
theorem variable_run (d : Int) (v : Nat) (hv : 0 < v) : ∃ i : Int, m__law_variable A [.int d, nD v] = some (.val (.int i)) ∧ 0 ≤ i ∧ i < v := by
  have key : ∃ x, m__law_variable A [.int d, nD v] = some (.val x) ∧ ∃ i : Int, x = .int i ∧ 0 ≤ i ∧ i < v := by
    refine m_ex rfl ?_
    have hf : dFdiv (.int d) (.int 2) = some (.int (d / 2)) := d_fdiv (by decide) (by decide)
    obtain ⟨m, m0, m1, hm⟩ : ∃ m : Nat, 0 < m ∧ m ≤ v ∧ fMin [nD v, .int 7] = some (nD m) := by
      by_cases h : (7 : Int) < (v : Int)
      · refine ⟨7, by decide, by omega, ?_⟩
        show some (D.int (if (7 : Int) < (v : Int) then _ else _)) = some (D.int _)
        rw [if_pos h]
        rfl
      · refine ⟨v, hv, Nat.le_refl _, ?_⟩
        show some (D.int (if (7 : Int) < (v : Int) then _ else _)) = some (D.int _)
        rw [if_neg h]
    refine wp_seq (wp_if (b := decide (d % 2 = 0)) (e_B (e_2 (e_2 (e_call (e_cons rfl rfl) rfl) rfl (d_mod (by decide))) rfl (Emb.int.eq (by decide) _ _))) (fun hb => ?_) (fun hb => wp_next ?_))
    · exact wp_ret (d := .int ((d / 2) % (v : Int))) (e_2 (e_call (e_cons (e_2 rfl rfl hf) rfl) rfl) rfl (d_mod (by omega))) ⟨_, rfl, _, rfl, Int.emod_nonneg _ (by omega), Int.emod_lt_of_pos _ (by omega)⟩
    · have h1 := Int.emod_nonneg (d / 2) (show ((m : Nat) : Int) ≠ 0 by omega)
      have h2 := Int.emod_lt_of_pos (d / 2) (show (0 : Int) < (m : Nat) by omega)
      exact wp_ret (d := .int ((v : Int) - 1 - (d / 2) % (m : Int))) (e_2 (e_2 rfl rfl rfl) (e_2 (e_call (e_cons (e_2 rfl rfl hf) rfl) rfl) (e_call (e_cons rfl (e_cons rfl rfl)) hm) (d_mod (by omega))) rfl) ⟨_, rfl, _, rfl, by omega, by omega⟩
  obtain ⟨x, h1, i, rfl, h2⟩ := key
  exact ⟨i, h1, h2⟩
theorem symbol_run (d : Nat) (al : List Lt) (v : Nat) (hal : 0 < al.length) (hl : al.length ≤ 1000) (hv : 0 < v) : ∃ s, m__law_symbol A [nD d, alD al, nD v] = some (.val s.D) ∧ okSy al v s = true := by
  have hs : 16000000 ≤ sizeLine := by unfold sizeLine; omega
  have key : ∃ x, m__law_symbol A [nD d, alD al, nD v] = some (.val x) ∧ ∃ s : Sy, x = s.D ∧ okSy al v s = true := by
    refine m_ex rfl ?_
    have hf : dFdiv (nD d) (.int 2) = some (.int ((d : Int) / 2)) := d_fdiv (by decide) (by decide)
    refine wp_seq (wp_if (b := decide ((d : Int) % 2 = 0)) (e_B (e_2 (e_2 (e_call (e_cons rfl rfl) rfl) rfl (d_mod (by decide))) rfl (Emb.int.eq (by decide) _ _))) (fun hb => ?_) (fun hb => wp_next ?_))
    · obtain ⟨k, hk, hke⟩ : ∃ k : Nat, k < al.length ∧ ((d : Int) / 2) % ((al.length : Nat) : Int) = (k : Int) := ⟨(d / 2) % al.length, Nat.mod_lt _ hal, rfl⟩
      refine wp_ret (d := (Sy.l al[k]).D) (e_2 rfl (e_2 (e_call (e_cons (e_2 rfl rfl hf) rfl) rfl) (e_call (e_cons rfl rfl) (len_al (x := al) (by omega))) (by rw [d_mod (by omega), hke])) (ix_al (by omega) (List.getElem?_eq_getElem hk))) ⟨_, rfl, .l al[k], rfl, ?_⟩
      exact decide_eq_true (List.getElem_mem _)
    · obtain ⟨i, h1, h2, h3⟩ := variable_run A ((d : Int) / 2) v hv
      exact wp_ret (d := (Sy.v i).D) (e_fn (ds := [.int ((d : Int) / 2), nD v]) (e_cons (e_2 rfl rfl hf) (e_cons rfl rfl)) h1) ⟨_, rfl, _, rfl, okSy_v h2 h3⟩
  obtain ⟨x, h1, s, rfl, h2⟩ := key
  exact ⟨s, h1, h2⟩
def szR : List Int := [9, 6] ++ (List.replicate 8 [4 * 10 ^ 7]).flatten
def DrawnR (al : Tx) (v : Nat) (r : Rule) : Prop := okRule al v r = true ∧ r.1.length ≤ 3 ∧ r.2.length ≤ 5
theorem rule_run (n : Int) (al : Tx) (v : Nat) (hal : 0 < al.length) (hl : al.length ≤ 1000) (hv : 0 < v) : ∃ r, m__law_rule A [.int n, alD al, nD v] = some (.val (rD r)) ∧ DrawnR al v r := by
  have hs : 16000000 ≤ sizeLine := by unfold sizeLine; omega
  have key : ∃ x, m__law_rule A [.int n, alD al, nD v] = some (.val x) ∧ ∃ r : Rule, x = rD r ∧ DrawnR al v r := by
    refine m_ex rfl ?_
    obtain ⟨row, h1, hd⟩ := digits_run A n szR (by decide) (by decide)
    have hk : CMul 4 (10 ^ 7) := cmul_l (by decide) (by decide)
    refine wp_seq (wp_set (d := .lst (iD row)) (e_fn (ds := [.int n, .lst (iD szR)]) (e_cons rfl (e_cons (e_lst (e_cat (a := iD [9, 6]) (b := iD (List.replicate 8 [4 * 10 ^ 7]).flatten) (e_lst (e_ln rfl (by show 2 ≤ sizeLine; omega))) (e_2 (x := .lst (iD [4 * 10 ^ 7])) (e_lst (e_ln (e_cons (e_2 rfl (e_2 rfl rfl rfl) (d_mul hk)) rfl) (by show 1 ≤ sizeLine; omega))) rfl (mul_iD [4 * 10 ^ 7] 8 (by decide) (by decide))) (by show 2 + 8 ≤ sizeLine; omega))) rfl)) h1) ?_)
    obtain ⟨d0, q0, l0⟩ := row_at hd 0 rfl
    obtain ⟨d1, q1, l1⟩ := row_at hd 1 rfl
    obtain ⟨d2, q2, l2⟩ := row_at hd 2 rfl
    obtain ⟨ns, hns⟩ := dig_iD hd
    have hnl : ns.length = 10 := by
      have h2 : row.length = 10 := hd.1
      rw [hns, List.length_map] at h2
      exact h2
    obtain ⟨z, hz, hz1, hz2⟩ : ∃ z : Nat, (1 : Int) + (d0 : Int) % 3 = (z : Int) ∧ 1 ≤ z ∧ z ≤ 3 := ⟨1 + d0 % 3, by omega, by omega, by omega⟩
    refine wp_seq (wp_set (d := nD z) (e_2 rfl (e_2 (e_call (e_cons (e_2 rfl rfl q0) rfl) rfl) rfl (d_mod (by decide))) (by show some (D.int (1 + (d0 : Int) % 3)) = _; rw [hz])) ?_)
    obtain ⟨ys, e1, e2, e3⟩ := e_lcE (c := [some (.fz (.int n)), some (.fz (alD al)), some (.fz (nD v)), some (.fz (.lst (iD row))), some (.fz (nD z)), none, none, none]) (gi := gIt (gCut (gVar 3) (gPart (gC (.int 2))) (gPart (g2 dAdd (gC (.int 2)) (gLook 4))))) (f := fName 7) (ge := gFn (m__law_symbol A) (VL.gCons (gVar 7) (VL.gCons (gVar 1) (VL.gCons (gVar 2) VL.gNil)))) (vs := [7]) (e := nD) (h := Sy.D) (S := fun s => okSy al v s = true) (xs := (ns.drop 2).take z) (e_items (e_cut (d := .lst (iD row)) rfl (e_part rfl) (e_part rfl) (iD_part hns 2 z)) rfl) (by rw [List.length_take]; omega) (fun x _ => by
      obtain ⟨s, h1, h2⟩ := symbol_run A x al v hal hl hv
      exact ⟨_, s, rfl, e_fn (ds := [nD x, alD al, nD v]) rfl h1, h2⟩)
    have hyl : ys.length = z := by rw [e2, List.length_take, List.length_drop]; omega
    refine wp_seq (wp_asgN (ds := ys.map Sy.D) e1 ?_)
    obtain ⟨i, hi, hi1, hi2⟩ := variable_run A ((d2 : Int) / 2) v hv
    obtain ⟨j, hj, hje⟩ : ∃ j : Nat, j < z ∧ ((d0 : Int) / 3) % ((z : Nat) : Int) = (j : Int) := ⟨(d0 / 3) % z, Nat.mod_lt _ (by omega), rfl⟩
    refine wp_seq (wp_setIx (ds := ys.map Sy.D) (d := (Sy.v i).D) (j := j) rfl (e_fn (ds := [.int ((d2 : Int) / 2), nD v]) (e_cons (e_2 (e_2 rfl rfl q2) rfl (d_fdiv (by decide) (by decide))) (e_cons rfl rfl)) hi) (e_2 (e_call (e_cons (e_2 (e_2 rfl rfl q0) rfl (d_fdiv (by decide) (by decide))) rfl) rfl) rfl (by rw [d_mod (by omega), hje])) (by rw [List.length_map]; omega) ?_)
    have hset : (ys.map Sy.D).set j (Sy.v i).D = (ys.set j (.v i)).map Sy.D := by rw [List.map_set]
    rw [hset]
    obtain ⟨zs, f1, f2, f3⟩ := e_lcE (c := [some (.fz (.int n)), some (.fz (alD al)), some (.fz (nD v)), some (.fz (.lst (iD row))), some (.fz (nD z)), some (.own ((ys.set j (.v i)).map Sy.D)), none, none]) (gi := gIt (gCut (gVar 3) (gPart (gC (.int 5))) (gPart (g2 dAdd (gC (.int 5)) (g2 dIx (gLook 3) (gC (.int 1))))))) (f := fName 7) (ge := gFn (m__law_symbol A) (VL.gCons (gVar 7) (VL.gCons (gVar 1) (VL.gCons (gVar 2) VL.gNil)))) (vs := [7]) (e := nD) (h := Sy.D) (S := fun s => okSy al v s = true) (xs := (ns.drop 5).take d1) (e_items (e_cut (d := .lst (iD row)) rfl (e_part rfl) (e_part (e_2 rfl (e_2 rfl rfl q1) rfl)) (iD_part hns 5 d1)) rfl) (by rw [List.length_take]; omega) (fun x _ => by
      obtain ⟨s, h1, h2⟩ := symbol_run A x al v hal hl hv
      exact ⟨_, s, rfl, e_fn (ds := [nD x, alD al, nD v]) rfl h1, h2⟩)
    refine wp_seq (wp_set (d := .lst (zs.map Sy.D)) (e_lst f1) ?_)
    refine wp_ret (d := rD (ys.set j (.v i), zs)) (e_tup (e_cons rfl (e_cons rfl rfl)) (by show 2 ≤ sizeLine; omega)) ⟨_, rfl, _, rfl, okRule_of (fun s hs2 => ?_) f3 ?_, ?_, ?_⟩
    · rcases List.mem_or_eq_of_mem_set hs2 with h | h
      · exact e3 s h
      · rw [h]; exact okSy_v hi1 hi2
    · rw [List.any_eq_true]
      exact ⟨Sy.v i, List.mem_iff_getElem.mpr ⟨j, by rw [List.length_set]; omega, List.getElem_set_self _⟩, rfl⟩
    · show (ys.set j (.v i)).length ≤ 3
      rw [List.length_set]; omega
    · show zs.length ≤ 5
      rw [f2, List.length_take]
      have : (d1 : Int) < 6 := l1
      omega
  obtain ⟨x, h1, r, rfl, h2⟩ := key
  exact ⟨r, h1, h2⟩
end K43
end

section
namespace K43
open PySem PySem.Spec PyProof.Rows L2 VL
variable (A : Ad)
theorem rev_al (x : Tx) : VL.revS ⟨(x.map Fin.val).toArray⟩ = ⟨(x.reverse.map Fin.val).toArray⟩ := by
  unfold VL.revS
  rw [List.map_reverse]
theorem e_rev {c : VL.Env} {g : GE} {x : Tx} (h : g c = some (alD x)) (hl : x.length ≤ 1000000) : gRevS g c = some (alD x.reverse) := by
  have hs : 16000000 ≤ sizeLine := by unfold sizeLine; omega
  unfold gRevS
  rw [h]
  show (if ((x.map Fin.val).toArray).size ≤ sizeLine then some (D.str (VL.revS ⟨(x.map Fin.val).toArray⟩)) else none) = _
  rw [if_pos (by simp; omega), rev_al]
  rfl
/-! texts and rows of texts of some length -/
def wt (ys : List Tx) : Nat := (ys.map List.length).sum + ys.length
theorem wt_app (a b : List Tx) : wt (a ++ b) = wt a + wt b := by
  unfold wt
  simp
  omega
theorem wt_take (a : List Tx) (k : Nat) : wt (a.take k) ≤ wt a := by
  have := wt_app (a.take k) (a.drop k)
  rw [List.take_append_drop] at this
  omega
theorem wt_drop (a : List Tx) (k : Nat) : wt (a.drop k) ≤ wt a := by
  have := wt_app (a.take k) (a.drop k)
  rw [List.take_append_drop] at this
  omega
theorem wt_sp {ch : Lt} (x : Tx) : wt (sp [ch] x) = x.length + 1 := by
  have h := joinT_len2 [ch] (sp_ne (s := [ch]) (x := x) (by simp))
  rw [sp_join (by simp)] at h
  unfold wt
  simp at h
  omega
theorem wt_mem {y : Tx} {ys : List Tx} (h : y ∈ ys) : y.length ≤ wt ys := by
  have := le_sumL h
  unfold wt
  omega
def Tb (g : GE) (c : VL.Env) (n : Nat) : Prop := ∃ y : Tx, g c = some (alD y) ∧ y.length ≤ n
def Lb (g : GE) (c : VL.Env) (n : Nat) : Prop := ∃ ys : List Tx, g c = some (.lst (ys.map alD)) ∧ wt ys ≤ n
theorem tb {c : VL.Env} {g : GE} {y : Tx} {n : Nat} (h : g c = some (alD y)) (hl : y.length ≤ n) : Tb g c n := ⟨y, h, hl⟩
theorem lb {c : VL.Env} {g : GE} {ys : List Tx} {n : Nat} (h : g c = some (.lst (ys.map alD))) (hl : wt ys ≤ n) : Lb g c n := ⟨ys, h, hl⟩
theorem Tb.mono {c : VL.Env} {g : GE} {n m : Nat} (h : Tb g c n) (hl : n ≤ m) : Tb g c m := by
  obtain ⟨y, h1, h2⟩ := h
  exact ⟨y, h1, by omega⟩
theorem tb_cut {c : VL.Env} {g : GE} {gl gh : VL.Env → Option (Option Int)} {lo hi : Option Int} {n : Nat} (h : Tb g c n) (h1 : gl c = some lo) (h2 : gh c = some hi) (hn : n ≤ 1000000) : Tb (gCut g gl gh) c n := by
  have hs : 16000000 ≤ sizeLine := by unfold sizeLine; omega
  obtain ⟨y, h3, h4⟩ := h
  obtain ⟨z, h5, h6⟩ := cut_al_ex (x := y) lo hi (by omega)
  exact ⟨z, e_cut h3 h1 h2 h5, by omega⟩
theorem tb_add {c : VL.Env} {g1 g2 : GE} {n m : Nat} (h1 : Tb g1 c n) (h2 : Tb g2 c m) (hn : n + m ≤ 1000000) : Tb (VL.g2 dAdd g1 g2) c (n + m) := by
  obtain ⟨y, h3, h4⟩ := h1
  obtain ⟨z, h5, h6⟩ := h2
  exact ⟨y ++ z, e_2 h3 h5 (add2 (by omega)), by rw [List.length_append]; omega⟩
theorem lb_cut {c : VL.Env} {g : GE} {gl gh : VL.Env → Option (Option Int)} {lo hi : Option Int} {n : Nat} (h : Lb g c n) (h1 : gl c = some lo) (h2 : gh c = some hi) : Lb (gCut g gl gh) c n := by
  obtain ⟨ys, h3, h4⟩ := h
  have h5 := e_cut (z := .lst (cutD (ys.map alD) lo hi)) h3 h1 h2 rfl
  rw [cut_map] at h5
  refine ⟨_, h5, ?_⟩
  have := wt_take (ys.drop (HT.sIx ys.length 0 lo)) (HT.sIx ys.length ys.length hi - HT.sIx ys.length 0 lo)
  have := wt_drop ys (HT.sIx ys.length 0 lo)
  omega
theorem lb_add {c : VL.Env} {g1 g2 : GE} {n m : Nat} (h1 : Lb g1 c n) (h2 : Lb g2 c m) (hn : n + m ≤ 1000000) : Lb (VL.g2 dAdd g1 g2) c (n + m) := by
  have hs : 16000000 ≤ sizeLine := by unfold sizeLine; omega
  obtain ⟨ys, h3, h4⟩ := h1
  obtain ⟨zs, h5, h6⟩ := h2
  have a1 : ys.length ≤ wt ys := by unfold wt; omega
  have a2 : zs.length ≤ wt zs := by unfold wt; omega
  exact ⟨ys ++ zs, e_2 h3 h5 (add_lst (by omega)), by rw [wt_app]; omega⟩
theorem lb_one {c : VL.Env} {g : GE} {n : Nat} (h : Tb g c n) : Lb (gL (gLen (VL.gCons g VL.gNil))) c (n + 1) := by
  have hs : 16000000 ≤ sizeLine := by unfold sizeLine; omega
  obtain ⟨y, h3, h4⟩ := h
  exact ⟨[y], e_lst (e_ln (e_cons h3 rfl) (by show 1 ≤ sizeLine; omega)), by simp [wt]; omega⟩
theorem tb_join {c : VL.Env} {g gs : GE} {ch : Lt} {n : Nat} (hs : gs c = some (alD [ch])) (h : Lb g c n) (hn : n ≤ 1000000) : Tb (VL.g2 dJoin gs g) c n := by
  obtain ⟨ys, h3, h4⟩ := h
  have h5 := joinT_len [ch] ys
  have e : ys.length * ([ch] : Tx).length = ys.length := by simp
  unfold wt at h4
  exact ⟨joinT [ch] ys, e_2 hs h3 (dJoin_sep [ch] ys (by omega)), by omega⟩
theorem lb_ix {c : VL.Env} {g gi : GE} {n k : Nat} {ys : List Tx} (h : g c = some (.lst (ys.map alD))) (hw : wt ys ≤ n) (hi : gi c = some (.int (k : Nat))) (hk : k < ys.length) : Tb (VL.g2 dIx g gi) c n := by
  refine ⟨ys[k], e_2 h hi (ix_map rfl (List.getElem?_eq_getElem hk)), ?_⟩
  have := wt_mem (List.getElem_mem hk)
  omega
theorem tb_ix {c : VL.Env} {g gi : GE} {x : Tx} {k : Nat} (h : g c = some (alD x)) (hl : x.length ≤ 1000000) (hi : gi c = some (.int (k : Nat))) (hk : k < x.length) : Tb (VL.g2 dIx g gi) c 1 := by
  have hs : 16000000 ≤ sizeLine := by unfold sizeLine; omega
  exact ⟨[x[k]], e_2 h hi (ix_al (by omega) (List.getElem?_eq_getElem hk)), Nat.le_refl 1⟩
def TxR (n : Nat) (o : Out) : Prop := ∃ d, o = .ret d ∧ ∃ y : Tx, d = alD y ∧ y.length ≤ n
theorem wp_tb {c : VL.Env} {g : GE} {n : Nat} {P : Out → Prop} (h : Tb g (frzAll c) n) (hP : ∀ y : Tx, y.length ≤ n → P (.ret (alD y))) : Wp (gRet g) c P := by
  obtain ⟨y, h1, h2⟩ := h
  exact wp_ret h1 (hP y h2)
theorem tx_in {m : Nat} {y : Tx} (h : y.length ≤ m) : TxR m (.ret (alD y)) := ⟨_, rfl, y, rfl, h⟩
theorem m_tx {n nn m : Nat} {g : GS} {ds : List D} (hl : ds.length = n) (h : Wp g (VL.envOf nn ds) (TxR m)) : ∃ y : Tx, mOf n nn g ds = some (.val (alD y)) ∧ y.length ≤ m := by
  obtain ⟨d, h1, y, rfl, h2⟩ := m_ex hl h
  exact ⟨y, h1, h2⟩
/-! the law's changes -/
theorem word_run (d : Nat) (al : Tx) (v : Nat) (hal : 0 < al.length) (hl : al.length ≤ 26) (hv : 0 < v) (hv2 : v < 10 ^ 9) : ∃ w : Tx, m__law_word A [nD d, alD al, nD v] = some (.val (alD w)) ∧ w.length ≤ 60 := by
  have hs : 16000000 ≤ sizeLine := by unfold sizeLine; omega
  refine m_tx (m := 60) rfl ?_
  obtain ⟨m, hm, hm2⟩ : ∃ m : Nat, ((d : Int) / 40) % (v : Int) = (m : Nat) ∧ m < v := ⟨(d / 40) % v, rfl, Nat.mod_lt _ hv⟩
  have htl := dec_len (n := m) (k := 9) (by decide) (by omega)
  have hl1 := dec_len (n := v) (k := 9) (by decide) hv2
  have hl2 := dec_len (n := v - 1) (k := 9) (by decide) (by omega)
  have hl3 := dec_len (n := v + 1) (k := 10) (by decide) (by omega)
  have hst := str_num m (by omega)
  refine wp_seq (wp_set (d := alD (decT m)) (e_call (e_cons (e_2 (e_call (e_cons (e_2 rfl rfl (d_fdiv (by decide) (by decide))) rfl) rfl) rfl (by rw [d_mod (by omega), hm])) rfl) hst) ?_)
  generalize decT m = t at htl
  have hvm : dSub (nD v) (.int 1) = some (nD (v - 1)) := by
    show some (D.int ((v : Int) - 1)) = some (D.int _)
    congr 2
    omega
  have i0 : ∀ {c : VL.Env}, gLook 1 c = some (alD al) → VL.g2 dIx (gLook 1) (gC (.int 0)) c = some (alD [al[0]]) := fun h => e_2 h rfl (ix_al (k := 0) (by omega) (List.getElem?_eq_getElem hal))
  have i1 : ∀ {c : VL.Env}, gLook 1 c = some (alD al) → VL.g2 dIx (gLook 1) (g2 dSub (gCall fLen (VL.gCons (gLook 1) VL.gNil)) (gC (.int 1))) c = some (alD [al[al.length - 1]]) := fun h => e_2 h (e_2 (z := .int ((al.length - 1 : Nat) : Int)) (e_lenX h (by omega)) rfl (by
    show some (D.int ((al.length : Int) - 1)) = some (D.int _)
    congr 2
    omega)) (ix_al (k := al.length - 1) (by omega) (List.getElem?_eq_getElem (by omega)))
  generalize al[0] = a0 at i0
  generalize al[al.length - 1] = a1 at i1
  let w1 : List Tx := [t, ([48] : Tx) ++ t, ([48, 48] : Tx), ([45, 49] : Tx), ([43] : Tx) ++ t, ([45, 48] : Tx), decT v, decT (v - 1), decT (v + 1)]
  let w2 : List Tx := [([49, 48, 48, 48, 48, 48, 48, 48, 48, 48] : Tx), ([48, 48, 48, 48, 48, 48, 48, 48, 48, 49] : Tx), ([57, 57, 57, 57, 57, 57, 57, 57, 57] : Tx), ([49, 95, 48] : Tx), ([65] : Tx), ([84, 114, 117, 101] : Tx), ([46] : Tx), ([46, 46] : Tx), ([45, 62] : Tx), ([61, 62] : Tx), ([45] : Tx), ([62] : Tx), ([58] : Tx)]
  let w3 : List Tx := [([] : Tx), ([32] : Tx), [a0], [a1], al ++ [a0], al.reverse, al]
  let w4 : List Tx := [([97] : Tx), ([122] : Tx), ([113] : Tx), ([97, 97] : Tx), ([98, 97] : Tx), ([103, 114, 97, 109, 109, 97, 114] : Tx), ([71, 114, 97, 109, 109, 97, 114] : Tx), ([109, 97, 99, 104, 105, 110, 101] : Tx), t ++ ([46] : Tx), t ++ [a0], ([48, 32, 48] : Tx)]
  refine wp_seq (wp_set (d := .lst (w1.map alD)) (e_lst (e_ln (e_cons (rfl) (e_cons (e_2 rfl rfl (add2 (x := ([48] : Tx)) (y := t) (by simp; omega))) (e_cons (rfl) (e_cons (rfl) (e_cons (e_2 rfl rfl (add2 (x := ([43] : Tx)) (y := t) (by simp; omega))) (e_cons (rfl) (e_cons (e_call (e_cons rfl rfl) (str_num v (by omega))) (e_cons (e_call (e_cons (e_2 rfl rfl hvm) rfl) (str_num (v - 1) (by omega))) (e_cons (e_call (e_cons (e_2 rfl rfl rfl) rfl) (str_num (v + 1) (by omega))) (rfl)))))))))) (by show 9 ≤ sizeLine; omega))) ?_)
  refine wp_seq (wp_set (d := .lst ((w1 ++ w2).map alD)) (e_2 (x := .lst (w1.map alD)) (y := .lst (w2.map alD)) rfl (e_lst (e_ln (e_cons (rfl) (e_cons (rfl) (e_cons (rfl) (e_cons (rfl) (e_cons (rfl) (e_cons (rfl) (e_cons (rfl) (e_cons (rfl) (e_cons (rfl) (e_cons (rfl) (e_cons (rfl) (e_cons (rfl) (e_cons (rfl) (rfl)))))))))))))) (by show 13 ≤ sizeLine; omega))) (add_lst (by show 9 + 13 ≤ sizeLine; omega))) ?_)
  refine wp_seq (wp_set (d := .lst ((w1 ++ w2 ++ w3).map alD)) (e_2 (x := .lst ((w1 ++ w2).map alD)) (y := .lst (w3.map alD)) rfl (e_lst (e_ln (e_cons (rfl) (e_cons (rfl) (e_cons (i0 rfl) (e_cons (i1 rfl) (e_cons (e_2 rfl (i0 rfl) (add2 (x := al) (y := [a0]) (by simp; omega))) (e_cons (e_rev rfl (by omega)) (e_cons (rfl) (rfl)))))))) (by show 7 ≤ sizeLine; omega))) (add_lst (by show 22 + 7 ≤ sizeLine; omega))) ?_)
  refine wp_seq (wp_set (d := .lst ((w1 ++ w2 ++ w3 ++ w4).map alD)) (e_2 (x := .lst ((w1 ++ w2 ++ w3).map alD)) (y := .lst (w4.map alD)) rfl (e_lst (e_ln (e_cons (rfl) (e_cons (rfl) (e_cons (rfl) (e_cons (rfl) (e_cons (rfl) (e_cons (rfl) (e_cons (rfl) (e_cons (rfl) (e_cons (e_2 rfl rfl (add2 (x := t) (y := ([46] : Tx)) (by simp; omega))) (e_cons (e_2 rfl (i0 rfl) (add2 (x := t) (y := [a0]) (by simp; omega))) (e_cons (rfl) (rfl)))))))))))) (by show 11 ≤ sizeLine; omega))) (add_lst (by show 29 + 11 ≤ sizeLine; omega))) ?_)
  have hk : d % 40 < (w1 ++ w2 ++ w3 ++ w4).length := Nat.mod_lt _ (by decide)
  have hall : ∀ x ∈ w1 ++ w2 ++ w3 ++ w4, x.length ≤ 60 := by
    simp only [w1, w2, w3, w4, List.forall_mem_append, List.forall_mem_cons]
    and_intros <;> first | (simp; done) | omega | (simp; omega)
  generalize w1 ++ w2 ++ w3 ++ w4 = ws at hk hall
  refine wp_tb (n := 60) ⟨ws[d % 40], e_2 rfl (e_2 (z := .int ((d % 40 : Nat) : Int)) (e_call (e_cons rfl rfl) rfl) rfl (d_mod (by decide))) (ix_map rfl (List.getElem?_eq_getElem hk)), hall _ (List.getElem_mem _)⟩ fun y hy => tx_in hy

theorem which_at {k : Nat} (h : k < 7) : ∃ w : Nat, dIx (.lst ([0, 0, 0, 0, 1, 1, 2].map nD)) (.int (k : Nat)) = some (nD w) := by
  have hh : k < ([0, 0, 0, 0, 1, 1, 2] : List Nat).length := by simp; omega
  exact ⟨_, ix_map rfl (List.getElem?_eq_getElem hh)⟩
theorem line_run (l w : Tx) (which d : Nat) (hl : l.length ≤ 20000) (hw : w.length ≤ 60) : ∃ y : Tx, m__law_changed_line A [alD l, nD which, nD d, alD w] = some (.val (alD y)) ∧ y.length ≤ 2 * l.length + 63 := by
  have hs : 16000000 ≤ sizeLine := by unfold sizeLine; omega
  refine m_tx (m := 2 * l.length + 63) rfl ?_
  have hne := sp_ne (s := [32]) (x := l) (by simp)
  have hwt := wt_sp (ch := 32) l
  refine wp_seq (wp_set (d := .lst ((sp [32] l).map alD)) (e_lst (e_split (x := l) (s := [32]) rfl rfl (by simp) (by omega))) ?_)
  generalize sp [32] l = ws at hne hwt
  have hp : 0 < ws.length := List.length_pos_iff.mpr hne
  refine wp_seq (wp_set (d := nD (d % ws.length)) (e_2 (e_call (e_cons rfl rfl) rfl) (e_lenM (e := alD) (xs := ws) rfl) (by rw [d_mod (by omega)]; rfl)) ?_)
  generalize d % ws.length = k
  have b : ∀ (c : VL.Env) (j : Int), gLook 1 c = some (nD which) → gB (VL.g2 dEq (gLook 1) (gC (.int j))) c = some (decide ((which : Int) = j)) := fun c j h => e_B (e_2 h rfl (Emb.int.eq (by decide) _ _))
  have c1 : ∀ c : VL.Env, gLook 4 c = some (.lst (ws.map alD)) → gLook 5 c = some (nD k) → Lb (gCut (gLook 4) (fun _ => some none) (gPart (gLook 5))) c (l.length + 1) := fun c h1 h2 => lb_cut (lb h1 (by omega)) rfl (e_part h2)
  have c2 : ∀ c : VL.Env, gLook 4 c = some (.lst (ws.map alD)) → gLook 5 c = some (nD k) → Lb (gCut (gLook 4) (gPart (gLook 5)) (fun _ => some none)) c (l.length + 1) := fun c h1 h2 => lb_cut (lb h1 (by omega)) (e_part h2) rfl
  have c3 : ∀ c : VL.Env, gLook 4 c = some (.lst (ws.map alD)) → gLook 5 c = some (nD k) → Lb (gCut (gLook 4) (gPart (g2 dAdd (gLook 5) (gC (.int 1)))) (fun _ => some none)) c (l.length + 1) := fun c h1 h2 => lb_cut (lb h1 (by omega)) (e_part (e_2 h2 rfl rfl)) rfl
  have o : ∀ c : VL.Env, gVar 3 c = some (alD w) → Lb (gL (gLen (VL.gCons (gVar 3) VL.gNil))) c 61 := fun c h => lb_one (tb (n := 60) h hw)
  refine wp_seq (wp_if (b := decide ((which : Int) = 0)) (b _ 0 rfl) (fun _ => wp_tb (tb_join (ch := 32) rfl (lb_add (lb_add (c1 _ rfl rfl) (o _ rfl) (by omega)) (c3 _ rfl rfl) (by omega)) (by omega)) (fun y hy => tx_in (by omega))) (fun _ => wp_next ?_))
  refine wp_seq (wp_if (b := decide ((which : Int) = 1)) (b _ 1 rfl) (fun _ => wp_tb (tb_join (ch := 32) rfl (lb_add (lb_add (c1 _ rfl rfl) (o _ rfl) (by omega)) (c2 _ rfl rfl) (by omega)) (by omega)) (fun y hy => tx_in (by omega))) (fun _ => wp_next ?_))
  exact wp_tb (tb_join (ch := 32) rfl (lb_add (c1 _ rfl rfl) (c3 _ rfl rfl) (by omega)) (by omega)) (fun y hy => tx_in (by omega))
def szC : List Int := [18, 40000, 30, 4000000, 6]
theorem changed_run (x : Tx) (row : List Int) (hd : Dig row szC) (al : Tx) (v : Nat) (h0 : 0 < x.length) (hx : x.length ≤ 6000) (hal : 0 < al.length) (hl : al.length ≤ 26) (hv : 0 < v) (hv2 : v < 10 ^ 9) :
    ∃ y : Tx, m__law_changed A [alD x, .lst (iD row), alD al, nD v] = some (.val (alD y)) ∧ y.length ≤ 39000 := by
  have hs : 16000000 ≤ sizeLine := by unfold sizeLine; omega
  refine m_tx (m := 39000) rfl ?_
  obtain ⟨d0, q0, l0⟩ := row_at hd 0 rfl
  obtain ⟨d1, q1, l1⟩ := row_at hd 1 rfl
  obtain ⟨d2, q2, l2⟩ := row_at hd 2 rfl
  obtain ⟨d3, q3, l3⟩ := row_at hd 3 rfl
  obtain ⟨d4, q4, l4⟩ := row_at hd 4 rfl
  refine wp_seq (wp_set (d := nD (d1 % x.length)) (e_2 (e_call (e_cons (e_2 rfl rfl q1) rfl) rfl) (e_lenX rfl (by omega)) (by rw [d_mod (by omega)]; rfl)) ?_)
  have hk : d1 % x.length < x.length := Nat.mod_lt _ h0
  generalize d1 % x.length = k at hk
  let sg : Tx := [48, 49, 50, 51, 52, 53, 54, 55, 56, 57, 32, 97, 98, 122, 65, 90, 46, 45, 62, 58, 10, 95, 43, 109, 32, 103, 48, 32]
  obtain ⟨ch, hch⟩ : ∃ ch : Lt, dIx (alD sg) (.int ((d2 % 28 : Nat) : Int)) = some (alD [ch]) := by
    have hh : d2 % 28 < sg.length := Nat.mod_lt _ (by decide)
    exact ⟨sg[d2 % 28], ix_al (by show 28 ≤ sizeLine; omega) (List.getElem?_eq_getElem hh)⟩
  refine wp_seq (wp_set (d := alD [ch]) (e_2 (x := alD sg) rfl (e_2 (e_call (e_cons (e_2 rfl rfl q2) rfl) rfl) rfl (d_mod (by decide))) hch) ?_)
  have b : ∀ (c : VL.Env) (j : Int), gLook 1 c = some (.lst (iD row)) → gB (VL.g2 dEq (VL.g2 dIx (gLook 1) (gC (.int 0))) (gC (.int j))) c = some (decide ((d0 : Int) = j)) := fun c j h => e_B (e_2 (e_2 h rfl q0) rfl (Emb.int.eq (by decide) _ _))
  have a : ∀ c : VL.Env, gVar 0 c = some (alD x) → Tb (gVar 0) c 6000 := fun c h => tb h hx
  have p1 : ∀ c : VL.Env, gLook 4 c = some (nD k) → gPart (g2 dAdd (gLook 4) (gC (.int 1))) c = some (some ((k + 1 : Nat) : Int)) := fun c h => e_part (e_2 h rfl rfl)
  have p2 : ∀ c : VL.Env, gLook 4 c = some (nD k) → gPart (g2 dAdd (gLook 4) (gC (.int 2))) c = some (some ((k + 2 : Nat) : Int)) := fun c h => e_part (e_2 h rfl rfl)
  have s5 : ∀ c : VL.Env, gVar 5 c = some (alD [ch]) → Tb (gVar 5) c 1 := fun c h => tb h (Nat.le_refl 1)
  refine wp_seq (wp_if (b := decide ((d0 : Int) = 0)) (b _ 0 rfl) (fun _ => wp_tb (tb_add (tb_add (tb_cut (a _ rfl) rfl (e_part rfl) (by omega)) (s5 _ rfl) (by omega)) (tb_cut (a _ rfl) (e_part rfl) rfl (by omega)) (by omega)) (fun y hy => tx_in (by omega))) (fun b0 => wp_next ?_))
  refine wp_seq (wp_if (b := decide ((d0 : Int) = 1)) (b _ 1 rfl) (fun _ => wp_tb (tb_add (tb_cut (a _ rfl) rfl (e_part rfl) (by omega)) (tb_cut (a _ rfl) (p1 _ rfl) rfl (by omega)) (by omega)) (fun y hy => tx_in (by omega))) (fun b1 => wp_next ?_))
  refine wp_seq (wp_if (b := decide ((d0 : Int) = 2)) (b _ 2 rfl) (fun _ => wp_tb (tb_add (tb_add (tb_cut (a _ rfl) rfl (e_part rfl) (by omega)) (s5 _ rfl) (by omega)) (tb_cut (a _ rfl) (p1 _ rfl) rfl (by omega)) (by omega)) (fun y hy => tx_in (by omega))) (fun b2 => wp_next ?_))
  refine wp_seq (wp_if (b := decide ((d0 : Int) = 3)) (b _ 3 rfl) (fun _ => wp_tb (tb_add (tb_add (tb_add (tb_cut (a _ rfl) rfl (e_part rfl) (by omega)) (tb_cut (a _ rfl) (p1 _ rfl) (p2 _ rfl) (by omega)) (by omega)) (tb_ix (x := x) (k := k) rfl (by omega) rfl hk) (by omega)) (tb_cut (a _ rfl) (p2 _ rfl) rfl (by omega)) (by omega)) (fun y hy => tx_in (by omega))) (fun b3 => wp_next ?_))
  refine wp_seq (wp_if (b := decide ((d0 : Int) = 4)) (b _ 4 rfl) (fun _ => wp_tb (tb_cut (a _ rfl) rfl (e_part rfl) (by omega)) (fun y hy => tx_in (by omega))) (fun b4 => wp_next ?_))
  refine wp_seq (wp_if (b := decide ((d0 : Int) = 5)) (b _ 5 rfl) (fun _ => wp_tb (tb_add (tb_add (a _ rfl) (tb (y := [10]) rfl (Nat.le_refl 1)) (by omega)) (a _ rfl) (by omega)) (fun y hy => tx_in (by omega))) (fun b5 => wp_next ?_))
  have hne := sp_ne (s := [10]) (x := x) (by simp)
  have hwt := wt_sp (ch := 10) x
  refine wp_seq (wp_set (d := .lst ((sp [10] x).map alD)) (e_lst (e_split (x := x) (s := [10]) rfl rfl (by simp) (by omega))) ?_)
  generalize sp [10] x = ws at hne hwt
  have hp : 0 < ws.length := List.length_pos_iff.mpr hne
  refine wp_seq (wp_set (d := nD (d1 % ws.length)) (e_2 (e_call (e_cons (e_2 rfl rfl q1) rfl) rfl) (e_lenM (e := alD) (xs := ws) rfl) (by rw [d_mod (by omega)]; rfl)) ?_)
  have hat : d1 % ws.length < ws.length := Nat.mod_lt _ hp
  generalize d1 % ws.length = at0 at hat
  let E (t : Nat) : VL.Env := [some (.fz (alD x)), some (.fz (.lst (iD row))), some (.fz (alD al)), some (.fz (nD v)), some (.fz (nD k)), some (.fz (alD [ch])), some (.fz (.lst (ws.map alD))), some (.fz (nD t)), none, none]
  refine wp_seq (Wp.mono (P := fun o => ∃ t, t < ws.length ∧ o = .nx (E t)) (wp_if (b := decide ((10 : Int) < (d0 : Int))) (e_B (e_2 (e_2 rfl rfl q0) rfl rfl)) (fun _ => wp_seq (wp_set (d := nD 0) rfl ?_)) (fun _ => wp_next ⟨at0, hat, rfl⟩)) ?_)
  · refine wp_if (b := decide ((0 : Int) < (d4 : Int)) && decide ((1 : Int) < (ws.length : Nat))) (e_and (e_B (e_2 (e_2 rfl rfl q4) rfl rfl)) fun _ => e_B (e_2 (e_lenM (e := alD) (xs := ws) rfl) rfl rfl)) (fun hb => ?_) (fun _ => wp_next ⟨0, hp, rfl⟩)
    rw [Bool.and_eq_true, decide_eq_true_eq, decide_eq_true_eq] at hb
    have hlm : dSub (.int (ws.length : Nat)) (.int 1) = some (nD (ws.length - 1)) := by
      show some (D.int ((ws.length : Int) - 1)) = some (D.int _)
      congr 2
      omega
    refine wp_set (d := nD (1 + d1 % (ws.length - 1))) (e_2 rfl (e_2 (e_call (e_cons (e_2 rfl rfl q1) rfl) rfl) (e_2 (e_lenM (e := alD) (xs := ws) rfl) rfl hlm) (d_mod (by omega))) rfl) ⟨_, ?_, rfl⟩
    have := Nat.mod_lt d1 (show 0 < ws.length - 1 by omega)
    omega
  rintro o ⟨t, ht, rfl⟩
  have c1 : ∀ c : VL.Env, gLook 6 c = some (.lst (ws.map alD)) → gLook 7 c = some (nD t) → Lb (gCut (gLook 6) (fun _ => some none) (gPart (gLook 7))) c 6001 := fun c h1 h2 => lb_cut (lb h1 (by omega)) rfl (e_part h2)
  have c1' : ∀ c : VL.Env, gLook 6 c = some (.lst (ws.map alD)) → gLook 7 c = some (nD t) → Lb (gCut (gLook 6) (fun _ => some none) (gPart (g2 dAdd (gLook 7) (gC (.int 1))))) c 6001 := fun c h1 h2 => lb_cut (lb h1 (by omega)) rfl (e_part (e_2 h2 rfl rfl))
  have c2 : ∀ c : VL.Env, gLook 6 c = some (.lst (ws.map alD)) → gLook 7 c = some (nD t) → Lb (gCut (gLook 6) (gPart (gLook 7)) (fun _ => some none)) c 6001 := fun c h1 h2 => lb_cut (lb h1 (by omega)) (e_part h2) rfl
  have c3 : ∀ c : VL.Env, gLook 6 c = some (.lst (ws.map alD)) → gLook 7 c = some (nD t) → Lb (gCut (gLook 6) (gPart (g2 dAdd (gLook 7) (gC (.int 1)))) (fun _ => some none)) c 6001 := fun c h1 h2 => lb_cut (lb h1 (by omega)) (e_part (e_2 h2 rfl rfl)) rfl
  have c4 : ∀ c : VL.Env, gLook 6 c = some (.lst (ws.map alD)) → gLook 7 c = some (nD t) → Lb (gCut (gLook 6) (gPart (g2 dAdd (gLook 7) (gC (.int 2)))) (fun _ => some none)) c 6001 := fun c h1 h2 => lb_cut (lb h1 (by omega)) (e_part (e_2 h2 rfl rfl)) rfl
  have c5 : ∀ c : VL.Env, gLook 6 c = some (.lst (ws.map alD)) → gLook 7 c = some (nD t) → Lb (gCut (gLook 6) (gPart (g2 dAdd (gLook 7) (gC (.int 1)))) (gPart (g2 dAdd (gLook 7) (gC (.int 2))))) c 6001 := fun c h1 h2 => lb_cut (lb h1 (by omega)) (e_part (e_2 h2 rfl rfl)) (e_part (e_2 h2 rfl rfl))
  have ln : ∀ c : VL.Env, gLook 6 c = some (.lst (ws.map alD)) → gLook 7 c = some (nD t) → Tb (g2 dIx (gLook 6) (gLook 7)) c 6001 := fun c h1 h2 => lb_ix h1 (by omega) h2 ht
  refine wp_seq (wp_if (b := decide ((d0 : Int) = 6)) (b _ 6 rfl) (fun _ => wp_tb (tb_join (ch := 10) rfl (lb_add (c1 _ rfl rfl) (c3 _ rfl rfl) (by omega)) (by omega)) (fun y hy => tx_in (by omega))) (fun b6 => wp_next ?_))
  refine wp_seq (wp_if (b := decide ((d0 : Int) = 7)) (b _ 7 rfl) (fun _ => wp_tb (tb_join (ch := 10) rfl (lb_add (c1' _ rfl rfl) (c2 _ rfl rfl) (by omega)) (by omega)) (fun y hy => tx_in (by omega))) (fun b7 => wp_next ?_))
  refine wp_seq (wp_if (b := decide ((d0 : Int) = 8)) (b _ 8 rfl) (fun _ => wp_tb (tb_join (ch := 10) rfl (lb_add (lb_add (lb_add (c1 _ rfl rfl) (c5 _ rfl rfl) (by omega)) (lb_one (ln _ rfl rfl)) (by omega)) (c4 _ rfl rfl) (by omega)) (by omega)) (fun y hy => tx_in (by omega))) (fun b8 => wp_next ?_))
  refine wp_seq (wp_if (b := decide ((d0 : Int) = 9)) (b _ 9 rfl) (fun _ => wp_tb (tb_join (ch := 10) rfl (lb_add (lb_add (c1 _ rfl rfl) (lb_one (tb (y := []) (n := 0) rfl (Nat.le_refl 0))) (by omega)) (c2 _ rfl rfl) (by omega)) (by omega)) (fun y hy => tx_in (by omega))) (fun b9 => wp_next ?_))
  have two : ∀ c : VL.Env, gLook 1 c = some (.lst (iD row)) → Tb (g2 dIx (gL (gLen (VL.gCons (gC (.str " ")) (VL.gCons (gC (.str "\n")) VL.gNil)))) (g2 dMod (gCall fInt (VL.gCons (g2 dIx (gLook 1) (gC (.int 4))) VL.gNil)) (gC (.int 2)))) c 6 := fun c h => lb_ix (ys := [[32], [10]]) (k := d4 % 2) (e_lst (e_ln rfl (by show 2 ≤ sizeLine; omega))) (by decide) (e_2 (e_call (e_cons (e_2 h rfl q4) rfl) rfl) rfl (d_mod (by decide))) (Nat.mod_lt _ (by decide))
  refine wp_seq (wp_if (b := decide ((d0 : Int) = 10)) (b _ 10 rfl) (fun _ => wp_tb (tb_join (ch := 10) rfl (lb_add (lb_add (c1 _ rfl rfl) (lb_one (tb_add (ln _ rfl rfl) (two _ rfl) (by omega))) (by omega)) (c3 _ rfl rfl) (by omega)) (by omega)) (fun y hy => tx_in (by omega))) (fun b10 => wp_next ?_))
  have hge : 11 ≤ d0 := by
    simp only [decide_eq_false_iff_not] at b0 b1 b2 b3 b4 b5 b6 b7 b8 b9 b10
    omega
  obtain ⟨w, w1, w2⟩ := word_run A d3 al v hal hl hv hv2
  refine wp_seq (wp_set (d := alD w) (e_fn (ds := [nD d3, alD al, nD v]) (e_cons (e_2 rfl rfl q3) (e_cons rfl (e_cons rfl rfl))) w1) ?_)
  obtain ⟨wh, hwh⟩ := which_at (k := d0 - 11) (by have : (d0 : Int) < 18 := l0; omega)
  have hlx := wt_mem (List.getElem_mem ht)
  obtain ⟨y, y1, y2⟩ := line_run A ws[t] w wh d2 (by omega) w2
  have hsub : dSub (.int (d0 : Int)) (.int 11) = some (.int ((d0 - 11 : Nat) : Int)) := by
    show some (D.int ((d0 : Int) - 11)) = some (D.int _)
    congr 2
    omega
  refine wp_seq (wp_set (d := alD y) (e_fn (ds := [alD ws[t], nD wh, nD d2, alD w]) (e_cons (e_2 rfl rfl (ix_map rfl (List.getElem?_eq_getElem ht))) (e_cons (e_2 (x := .lst ([0, 0, 0, 0, 1, 1, 2].map nD)) (e_lst (e_ln rfl (by show 7 ≤ sizeLine; omega))) (e_2 (e_2 rfl rfl q0) rfl hsub) hwh) (e_cons (e_2 rfl rfl q2) (e_cons rfl rfl)))) y1) ?_)
  exact wp_tb (tb_join (ch := 10) rfl (lb_add (lb_add (c1 _ rfl rfl) (lb_one (tb (y := y) (n := 13000) rfl (by omega))) (by omega)) (c3 _ rfl rfl) (by omega)) (by omega)) (fun y hy => tx_in (by omega))
end K43
end

section
namespace K43
open PySem PySem.Spec PyProof.Rows L2 VL
variable (A : Ad)
theorem mul_map {α : Type} {e : α → D} (xs : List α) (n : Nat) (h : xs.length * n ≤ 1000000) (hn : n < 1000000) : dMul (.lst (xs.map e)) (.int (n : Nat)) = some (.lst ((List.replicate n xs).flatten.map e)) := by
  have hs : 1000000 ≤ sizeLine := by unfold sizeLine; omega
  unfold dMul
  simp only []
  rw [if_pos ⟨by omega, by omega, by rw [List.length_map, Int.toNat_natCast]; omega⟩, Int.toNat_natCast]
  congr 2
  rw [List.map_flatten, List.map_replicate]
theorem drawn_rd {al : Tx} {v : Nat} {r : Rule} (hv : v < 10 ^ 9) (h : DrawnR al v r) : (∀ s ∈ r.1, Rd al v s) ∧ ∀ s ∈ r.2, Rd al v s := by
  obtain ⟨s1, s2, _, _⟩ := okRule_parts h.1
  have key : ∀ f : Form, Syms al v f → ∀ s ∈ f, Rd al v s := fun f hf s hs => ⟨hf s hs, fun i hi => by
    subst hi
    have := okSy_n (hf _ hs)
    omega⟩
  exact ⟨key _ s1, key _ s2⟩
theorem drawn_fit {al : Tx} {v : Nat} {rs : List Rule} (hal : al.length ≤ 26) (hv : v < 10 ^ 9) (h : ∀ r ∈ rs, DrawnR al v r) (hl : rs.length ≤ 60) : Fit al v rs ∧ (gramT al v rs).length ≤ 6000 ∧ 0 < (gramT al v rs).length := by
  have hN : ∀ r ∈ rs, NN r.1 ∧ NN r.2 := fun r hr => ⟨(rd_side (drawn_rd hv (h r hr)).1).1, (rd_side (drawn_rd hv (h r hr)).2).1⟩
  have hd := dec_len (n := v) (k := 9) (by decide) hv
  have hH : (headT al v).length ≤ 46 ∧ 8 ≤ (headT al v).length := by
    have : tG.length = 8 := rfl
    have : tC.length = 3 := rfl
    unfold headT
    simp only [List.length_append]
    omega
  have hr : ∀ y ∈ rs.map ruleT, y.length ≤ 86 := fun y hy => by
    obtain ⟨r, hr, rfl⟩ := List.mem_map.mp hy
    have h1 := (rd_side (drawn_rd hv (h r hr)).1).2
    have h2 := (rd_side (drawn_rd hv (h r hr)).2).2
    have h3 := (h r hr).2
    have : arrow.length = 4 := rfl
    unfold ruleT
    simp only [List.length_append]
    omega
  have hsum := sum_le hr
  rw [List.length_map] at hsum
  have h2 := joinT_len2 [10] (ys := linesT al v rs) (by simp [linesT])
  have h3 : (linesT al v rs).length * ([10] : Tx).length = rs.length + 1 := by simp [linesT]
  have h4 : ((linesT al v rs).map List.length).sum = (headT al v).length + ((rs.map ruleT).map List.length).sum := rfl
  have h5 : (gramT al v rs).length = (joinT [10] (linesT al v rs)).length := rfl
  have h6 : ([10] : Tx).length = 1 := rfl
  exact ⟨⟨by omega, hN, by omega⟩, by omega, by omega⟩
theorem ra_run {c : VL.Env} {g : GE} {n : Nat} (h : Tb g c n) (hn : n ≤ 40000) : gTru (gFn (m__law_read_alike A) (VL.gCons g VL.gNil)) c = some true := by
  obtain ⟨y, h1, h2⟩ := h
  exact e_tru (e_fn (ds := [alD y]) (e_cons h1 rfl) (read_alike_run A y (by omega))) rfl
theorem not_ra {c : VL.Env} {g : GE} {n : Nat} (h : Tb g c n) (hn : n ≤ 40000) : gNot (gTru (gFn (m__law_read_alike A) (VL.gCons g VL.gNil))) c = some false := e_not (a := true) (ra_run A h hn)
theorem e_gItems {c : VL.Env} {g : GE} {d : D} {ds : List D} (h : g c = some d) (hi : d.items = some ds) : gItems g c = some ds := by
  unfold gItems
  rw [h]; exact hi
theorem law_run (xs : List Int) : m_law A [.scr (iD xs)] = some (.val (.bl true)) := by
  have hs : 16000000 ≤ sizeLine := by unfold sizeLine; omega
  refine m_val rfl ?_
  obtain ⟨n0, hn0⟩ := lcell_run A xs 0 (by decide)
  obtain ⟨al, ha1, ha2⟩ := alphabet_run A n0
  obtain ⟨hlow, hal1, hal2⟩ := alph_low ha2
  refine wp_seq (wp_set (d := alD al) (e_fn (ds := [.int n0]) (e_cons (e_fn (ds := [.scr (iD xs), .int (0 : Nat)]) rfl hn0) rfl) ha1) ?_)
  obtain ⟨row, r1, hd⟩ := e_draw A (c := [some (.fz (.scr (iD xs))), some (.fz (alD al)), none, none, none, none, none, none, none, none, none, none, none]) (xs := xs) (k := 1) (sz := [8, 5, 32, 999999999, 7, 8]) (ge := gC (.int 1)) (gs := gL (gLen (VL.gCons (gC (.int 8)) (VL.gCons (gC (.int 5)) (VL.gCons (gC (.int 32)) (VL.gCons (gC (.int 999999999)) (VL.gCons (gC (.int 7)) (VL.gCons (gC (.int 8)) VL.gNil)))))))) (by decide) rfl rfl (e_lst (e_ln rfl (by show 6 ≤ sizeLine; omega))) (by simp) (by simp)
  refine wp_seq (wp_set (d := .lst (iD row)) r1 ?_)
  obtain ⟨d0, q0, l0⟩ := row_at hd 0 rfl
  obtain ⟨d1, q1, l1⟩ := row_at hd 1 rfl
  obtain ⟨d2, q2, l2⟩ := row_at hd 2 rfl
  obtain ⟨d3, q3, l3⟩ := row_at hd 3 rfl
  obtain ⟨d4, q4, l4⟩ := row_at hd 4 rfl
  obtain ⟨d5, q5, l5⟩ := row_at hd 5 rfl
  have b0 : ∀ (c : VL.Env) (j : Int), gLook 2 c = some (.lst (iD row)) → gB (VL.g2 dEq (VL.g2 dIx (gLook 2) (gC (.int 0))) (gC (.int j))) c = some (decide ((d0 : Int) = j)) := fun c j h => e_B (e_2 (e_2 h rfl q0) rfl (Emb.int.eq (by decide) _ _))
  let E (v : Nat) : VL.Env := [some (.fz (.scr (iD xs))), some (.fz (alD al)), some (.fz (.lst (iD row))), some (.fz (nD v)), none, none, none, none, none, none, none, none, none]
  refine wp_seq (wp_set (d := nD (1 + d1)) (e_2 rfl (e_2 rfl rfl q1) rfl) ?_)
  refine wp_seq (Wp.mono (P := fun o => ∃ v, 0 < v ∧ v < 10 ^ 9 ∧ o = .nx (E v)) (wp_if (b := decide ((d0 : Int) = 5) || decide ((d0 : Int) = 6)) (e_or (b0 _ 5 rfl) fun _ => b0 _ 6 rfl) (fun _ => wp_set (d := nD (9 + d2)) (e_2 rfl (e_2 rfl rfl q2) rfl) ⟨9 + d2, by omega, by omega, rfl⟩) (fun _ => wp_next ⟨1 + d1, by omega, by omega, rfl⟩)) ?_)
  rintro o ⟨v, v1, v2, rfl⟩
  refine wp_seq (Wp.mono (P := fun o => ∃ v, 0 < v ∧ v < 10 ^ 9 ∧ o = .nx (E v)) (wp_if (b := decide ((d0 : Int) = 7)) (b0 _ 7 rfl) (fun _ => wp_set (d := nD (1 + d3)) (e_2 rfl (e_2 rfl rfl q3) rfl) ⟨1 + d3, by omega, by omega, rfl⟩) (fun _ => wp_next ⟨v, v1, v2, rfl⟩)) ?_)
  clear v1 v2
  rintro o ⟨v, v1, v2, rfl⟩
  refine wp_seq (Wp.mono (P := fun o => ∃ v, 0 < v ∧ v < 10 ^ 9 ∧ o = .nx (E v)) (wp_if (b := decide ((d0 : Int) = 4)) (b0 _ 4 rfl) (fun _ => wp_set (d := nD (999999999 - d2)) (e_2 rfl (e_2 rfl rfl q2) (by
    show some (D.int (999999999 - (d2 : Int))) = some (D.int _)
    congr 2
    omega)) ⟨999999999 - d2, by omega, by omega, rfl⟩) (fun _ => wp_next ⟨v, v1, v2, rfl⟩)) ?_)
  clear v1 v2
  rintro o ⟨v, v1, v2, rfl⟩
  obtain ⟨rs, f1, f2, f3⟩ := e_lcE (c := E v) (gi := gRg1 (VL.gCons (g2 dIx (gLook 2) (gC (.int 4))) VL.gNil)) (f := fName 7) (ge := gFn (m__law_rule A) (VL.gCons (gFn (m__law_cell A) (VL.gCons (gVar 0) (VL.gCons (g2 dAdd (gC (.int 2)) (gVar 7)) VL.gNil))) (VL.gCons (gVar 1) (VL.gCons (gVar 3) VL.gNil)))) (vs := [7]) (e := nD) (h := rD) (S := DrawnR al v) (xs := List.range d4) (by
    rw [← rg_nD]
    have := e_rg1 (c := E v) (ga := VL.gCons (g2 dIx (gLook 2) (gC (.int 4))) VL.gNil) (n := (d4 : Int)) (e_cons (e_2 rfl rfl q4) rfl) (by omega) (by omega)
    exact this) (by rw [List.length_range]; omega) (fun k hk => by
    have hk2 : k < d4 := List.mem_range.mp hk
    obtain ⟨n, hn⟩ := lcell_run A xs (2 + k) (by omega)
    obtain ⟨r, h1, h2⟩ := rule_run A n al v (by omega) (by omega) v1
    exact ⟨_, r, rfl, e_fn (ds := [.int n, alD al, nD v]) (e_cons (e_fn (ds := [.scr (iD xs), .int ((2 + k : Nat) : Int)]) rfl hn) (e_cons rfl (e_cons rfl rfl))) h1, h2⟩)
  rw [List.length_range] at f2
  refine wp_seq (wp_set (d := .lst (rs.map rD)) (e_lst f1) ?_)
  let E2 (rs : List Rule) : VL.Env := [some (.fz (.scr (iD xs))), some (.fz (alD al)), some (.fz (.lst (iD row))), some (.fz (nD v)), some (.fz (.lst (rs.map rD))), none, none, none, none, none, none, none, none]
  refine wp_seq (Wp.mono (P := fun o => ∃ rs, (∀ r ∈ rs, DrawnR al v r) ∧ rs.length ≤ 60 ∧ o = .nx (E2 rs)) (wp_if (b := decide ((d5 : Int) = 0)) (e_B (e_2 (e_2 rfl rfl q5) rfl (Emb.int.eq (by decide) _ _))) (fun _ => wp_set (e_2 rfl rfl (mul_map rs 10 (by omega) (by decide))) ⟨_, ?_, ?_, rfl⟩) (fun _ => wp_next ⟨rs, f3, by omega, rfl⟩)) ?_)
  · intro r hr
    rw [List.mem_flatten] at hr
    obtain ⟨l, h1, h2⟩ := hr
    rw [List.mem_replicate] at h1
    rw [h1.2] at h2
    exact f3 r h2
  · have h1 := flat_len (List.replicate 10 rs) 6 (fun y hy => by rw [(List.mem_replicate.mp hy).2]; omega)
    rw [List.length_replicate] at h1
    exact h1
  clear f1 f2 f3
  rintro o ⟨rs, hR, hrl, rfl⟩
  obtain ⟨ft, g1, gpos⟩ := drawn_fit hal2 v2 hR hrl
  have hok : ∀ r ∈ rs, okRule al v r = true := fun r hr => (hR r hr).1
  have hT := good_told (x := []) ha2 v1 v2 hok
  have hW := written_run A al v rs ft
  have hG := Grammar_runL A al v rs (by have := is_alphabet_runB A al (by omega); rw [ha2] at this; exact this) (by omega) (fun r hr => ⟨hok r hr, by have := (hR r hr).2; omega⟩) (by omega)
  have hF := formatted_run A al v rs ft
  have hK := kept_run A al v rs (by omega) (fun r hr => by have := (hR r hr).2; omega)
  have hL := law_read_run A (gramT al v rs) (by omega)
  have hPa := parsed_run A (gramT al v rs) (by omega)
  rw [hT] at hL hPa
  generalize gramT al v rs = x at hW hF hL hPa g1 gpos
  refine wp_seq (wp_set (d := alD x) (e_fn (ds := [alD al, nD v, .lst (rs.map rD)]) rfl hW) ?_)
  have i0 : ∀ {c : VL.Env} {g : GE} {r : Rule}, g c = some (rD r) → VL.g2 dIx g (gC (.int 0)) c = some (fD r.1) := fun {c g r} h => e_2 h rfl (ix_map (e := fD) (xs := [r.1, r.2]) (k := 0) rfl rfl)
  have i1 : ∀ {c : VL.Env} {g : GE} {r : Rule}, g c = some (rD r) → VL.g2 dIx g (gC (.int 1)) c = some (fD r.2) := fun {c g r} h => e_2 h rfl (ix_map (e := fD) (xs := [r.1, r.2]) (k := 1) rfl rfl)
  refine wp_seq (wp_set (d := gD A al v rs) (e_make (ds := [alD al, nD v, .lst (rs.map rL)]) (e_cons rfl (e_cons rfl (e_cons (e_lst (e_lc (e := rD) (h := rL) (xs := rs) (e_items rfl rfl) (by omega) (fun r _ => ⟨_, rfl, e_lst (e_ln (e_cons (e_lst (e_gItems (i0 rfl) rfl)) (e_cons (e_lst (e_gItems (i1 rfl) rfl)) rfl)) (by show 2 ≤ sizeLine; omega))⟩))) rfl))) hG) ?_)
  let E3 (y7 y8 y9 y10 y11 : Option Cell) : VL.Env := [some (.fz (.scr (iD xs))), some (.fz (alD al)), some (.fz (.lst (iD row))), some (.fz (nD v)), some (.fz (.lst (rs.map rD))), some (.fz (alD x)), some (.fz (gD A al v rs)), y7, y8, y9, y10, y11, none]
  have hx : ∀ {c : VL.Env}, gLook 5 c = some (alD x) → Tb (gLook 5) c 6000 := fun h => tb h g1
  refine wp_seq (wp_iff (e_or (a := false) (b := false) (e_not (a := true) (e_tru (e_fn (ds := [gD A al v rs, alD x]) rfl hF) rfl)) fun _ => e_B (e_2 (x := .str "grammar") (e_2 (e_fn (ds := [alD x]) rfl hL) rfl rfl) rfl rfl)) (wp_next ?_))
  refine wp_seq (wp_iff (e_or (a := false) (b := false) (not_ra A (hx rfl) (by omega)) fun _ => not_ra A (tb (y := []) (n := 0) rfl (Nat.le_refl 0)) (by omega)) (wp_next ?_))
  refine wp_seq (wp_for (ds := rgD 0 15) (e_rg1 (n := 15) rfl (by decide) (by decide)) ?_)
  refine wpl_rg (fun k c => ∃ y7 y8, c = E3 y7 y8 none none none) ⟨none, none, rfl⟩ ?_ ?_
  · rintro k c hk ⟨y7, y8, rfl⟩
    refine ⟨_, rfl, ?_⟩
    obtain ⟨ch, c1, c2⟩ := e_draw A (c := E3 (some (.fz (nD k))) y8 none none none) (xs := xs) (k := 8 + k) (sz := szC) (ge := g2 dAdd (gC (.int 8)) (gVar 7)) (gs := gL (gLen (VL.gCons (gC (.int 18)) (VL.gCons (gC (.int 40000)) (VL.gCons (gC (.int 30)) (VL.gCons (gC (.int 4000000)) (VL.gCons (gC (.int 6)) VL.gNil))))))) (by omega) rfl rfl (e_lst (e_ln rfl (by show 5 ≤ sizeLine; omega))) (by decide) (by decide)
    refine wp_seq (wp_set (d := .lst (iD ch)) c1 ?_)
    obtain ⟨y, y1, y2⟩ := changed_run A x ch c2 al v gpos g1 (by omega) hal2 v1 v2
    exact wp_iff (not_ra A (tb (e_fn (ds := [alD x, .lst (iD ch), alD al, nD v]) rfl y1) y2) (by omega)) (wp_next ⟨_, _, rfl⟩)
  rintro c ⟨y7, y8, rfl⟩
  let st : List Tx := [tG ++ al ++ [32, 58, 32, 48], tG ++ al ++ [32, 58, 32, 49, 48, 48, 48, 48, 48, 48, 48, 48, 48], [103, 114, 97, 109, 109, 97, 114, 32, 32, 58, 32, 49], [], [32]]
  have hst : ∀ y ∈ st, y.length ≤ 60 := by
    have : tG.length = 8 := rfl
    simp only [st, List.forall_mem_cons, List.length_append]
    and_intros <;> first | (simp; done) | omega | (simp; omega)
  have tg : tG.length = 8 := rfl
  have a1 : dAdd (alD tG) (alD al) = some (alD (tG ++ al)) := add2 (by omega)
  have a2 : dAdd (alD (tG ++ al)) (alD [32, 58, 32, 48]) = some (alD (tG ++ al ++ [32, 58, 32, 48])) := add2 (by simp; omega)
  have a3 : dAdd (alD (tG ++ al)) (alD [32, 58, 32, 49, 48, 48, 48, 48, 48, 48, 48, 48, 48]) = some (alD (tG ++ al ++ [32, 58, 32, 49, 48, 48, 48, 48, 48, 48, 48, 48, 48])) := add2 (by simp; omega)
  refine wp_seq (wp_for (ds := st.map alD) (e_items (e_lst (e_ln (xs := st.map alD) (e_cons (e_2 (e_2 rfl rfl a1) rfl a2) (e_cons (e_2 (e_2 rfl rfl a1) rfl a3) rfl)) (by show 5 ≤ sizeLine; omega))) rfl) ?_)
  refine wpl_all (fun done c => ∃ y9, c = E3 y7 y8 y9 none none) ⟨none, rfl⟩ ?_ ?_
  · rintro done w rest c q ⟨y9, rfl⟩
    have hw := hst w (by rw [q]; simp)
    refine ⟨_, rfl, ?_⟩
    have t9 : ∀ {c : VL.Env}, gLook 9 c = some (alD w) → Tb (gLook 9) c 60 := fun h => tb h hw
    exact wp_iff (e_or (a := false) (b := false) (not_ra A (t9 rfl) (by omega)) fun _ => e_or (a := false) (b := false) (not_ra A (tb_add (t9 rfl) (hx rfl) (by omega)) (by omega)) fun _ => not_ra A (tb_add (hx rfl) (tb_cut (t9 rfl) rfl rfl (by omega)) (by omega)) (by omega)) (wp_next ⟨_, rfl⟩)
  rintro c ⟨y9, rfl⟩
  let sd : List Tx := [[48, 32, 45, 62, 32], [48, 32, 45, 62], [48, 32, 45, 62, 32, 46, 32, 46], [46, 32, 45, 62, 32, 48], [32, 45, 62, 32, 48], [48, 32, 45, 62, 32, 48, 48], [48, 32, 45, 62, 32, 48, 32, 45, 62, 32, 48], [48], [48, 32, 45, 62, 32, 46], [48, 32, 45, 62, 32, 48, 32, 48], [45, 62, 32, 48]]
  have hsd : ∀ y ∈ sd, y.length ≤ 60 := by decide
  refine wp_seq (wp_for (ds := sd.map alD) (e_items (e_lst (e_ln (xs := sd.map alD) rfl (by show 11 ≤ sizeLine; omega))) rfl) ?_)
  refine wpl_all (fun done c => ∃ y10, c = E3 y7 y8 y9 y10 none) ⟨none, rfl⟩ ?_ ?_
  · rintro done w rest c q ⟨y10, rfl⟩
    have hw := hsd w (by rw [q]; simp)
    refine ⟨_, rfl, ?_⟩
    have t10 : ∀ {c : VL.Env}, gLook 10 c = some (alD w) → Tb (gLook 10) c 60 := fun h => tb h hw
    have t0 : ∀ {c : VL.Env}, gLook 5 c = some (alD x) → gLook 10 c = some (alD w) → Tb (g2 dAdd (g2 dAdd (gLook 5) (gC (.str "\n"))) (gLook 10)) c 6061 := fun h h2 => tb_add (tb_add (hx h) (tb (y := [10]) (n := 1) rfl (Nat.le_refl 1)) (by omega)) (t10 h2) (by omega)
    exact wp_iff (e_or (a := false) (b := false) (not_ra A (t0 rfl rfl) (by omega)) fun _ => not_ra A (tb_add (tb_add (t0 rfl rfl) (tb (y := [32]) (n := 1) rfl (Nat.le_refl 1)) (by omega)) (tb_ix (x := al) (k := 0) rfl (by omega) rfl (by omega)) (by omega)) (by omega)) (wp_next ⟨_, rfl⟩)
  rintro c ⟨y10, rfl⟩
  refine wp_seq (wp_set (d := askD A (.good al v rs)) (e_fn (ds := [alD x]) rfl hPa) ?_)
  exact wp_ret (d := .bl true) (e_bl (e_and (a := true) (b := true) (e_B (e_2 (x := .str "grammar") rfl rfl rfl)) fun _ => e_B (e_bl (e_and (a := true) (b := true) (e_B (e_fn (ds := [gD A al v rs, alD al, nD v, .lst (rs.map rD)]) rfl hK)) fun _ => e_B (e_fn (ds := [gD A al v rs, alD x]) rfl hF))))) rfl
end K43
end

section
namespace K43
open PySem PySem.Spec PyProof.Rows L2 VL

/-- what the top has written -/
structure Txt (K : PySem.W.Frag) (mg : Str → Option Value) (A : Ad) : Prop where

  b_ValueError : mg "ValueError" = none

  b_bool : mg "bool" = none

  b_enumerate : mg "enumerate" = none

  b_int : mg "int" = none

  b_isinstance : mg "isinstance" = none

  b_len : mg "len" = none

  b_list : mg "list" = none

  b_min : mg "min" = none

  b_range : mg "range" = none

  b_str : mg "str" = none

  b_tuple : mg "tuple" = none

  k_DIGITS : ∃ u, mg "DIGITS" = some u ∧ RelV (.str "0123456789") u

  k_LETTERS : ∃ u, mg "LETTERS" = some u ∧ RelV (.str "abcdefghijklmnopqrstuvwxyz") u

  c_Grammar : Cls K A.C_Grammar

  g_Grammar : mg "Grammar" = some (.ref A.C_Grammar)

  ic_Grammar : C8.InsC K A.C_Grammar

  n_Grammar_alphabet : NoAttr K A.C_Grammar "alphabet"

  n_Grammar_variables : NoAttr K A.C_Grammar "variables"

  n_Grammar_rules : NoAttr K A.C_Grammar "rules"

  g_BadLine : mg "BadLine" = some (.ref A.C_BadLine)

  e_BadLine : PySem.W.exmOne K (.ref A.C_BadLine) (.ref A.C_BadLine) = some true

  y_BadLine : IsxC K A.C_BadLine

  x_BadLine : XfC K A.C_BadLine

  xn_BadLine_index : PySem.W.findIn K (.ref A.C_BadLine) "index" = some none

  g_BadAlphabet : mg "BadAlphabet" = some (.ref A.C_BadAlphabet)

  g_BadForm : mg "BadForm" = some (.ref A.C_BadForm)

  g_BadRow : mg "BadRow" = some (.ref A.C_BadRow)

  g_BadRule : mg "BadRule" = some (.ref A.C_BadRule)

  g_BadText : mg "BadText" = some (.ref A.C_BadText)

  g_BadVariables : mg "BadVariables" = some (.ref A.C_BadVariables)

  g_LeashError : mg "LeashError" = some (.ref A.C_LeashError)

  q_BadLine_BadAlphabet : PySem.W.kitOne K (.ref A.C_BadLine) (.ref A.C_BadAlphabet) = some false

  q_BadLine_BadForm : PySem.W.kitOne K (.ref A.C_BadLine) (.ref A.C_BadForm) = some false

  q_BadLine_BadLine : PySem.W.kitOne K (.ref A.C_BadLine) (.ref A.C_BadLine) = some true

  q_BadLine_BadRow : PySem.W.kitOne K (.ref A.C_BadLine) (.ref A.C_BadRow) = some false

  q_BadLine_BadRule : PySem.W.kitOne K (.ref A.C_BadLine) (.ref A.C_BadRule) = some false

  q_BadLine_BadText : PySem.W.kitOne K (.ref A.C_BadLine) (.ref A.C_BadText) = some false

  q_BadLine_BadVariables : PySem.W.kitOne K (.ref A.C_BadLine) (.ref A.C_BadVariables) = some false

  q_BadLine_ValueError : PySem.W.kitOne K (.ref A.C_BadLine) (.type "ValueError") = some true

  x_BadLine_LeashError : PySem.W.exmOne K (.ref A.C_BadLine) (.ref A.C_LeashError) = some true

theorem sc_is_alphabet : FnScope N_is_alphabet ["value"] (defScope s_is_alphabet) := ⟨rfl, rfl, rfl, by decide +kernel, rfl, by decide +kernel, by decide +kernel⟩

theorem sc_check_alphabet : FnScope N_check_alphabet ["alphabet"] (defScope s_check_alphabet) := ⟨rfl, rfl, rfl, by decide +kernel, rfl, by decide +kernel, by decide +kernel⟩

theorem sc_is_whole : FnScope N_is_whole ["value"] (defScope s_is_whole) := ⟨rfl, rfl, rfl, by decide +kernel, rfl, by decide +kernel, by decide +kernel⟩

theorem sc_is_variable : FnScope N_is_variable ["symbol"] (defScope s_is_variable) := ⟨rfl, rfl, rfl, by decide +kernel, rfl, by decide +kernel, by decide +kernel⟩

theorem sc_is_symbol : FnScope N_is_symbol ["symbol", "alphabet", "variables"] (defScope s_is_symbol) := ⟨rfl, rfl, rfl, by decide +kernel, rfl, by decide +kernel, by decide +kernel⟩

theorem sc_is_rule : FnScope N_is_rule ["left", "right", "alphabet", "variables"] (defScope s_is_rule) := ⟨rfl, rfl, rfl, by decide +kernel, rfl, by decide +kernel, by decide +kernel⟩

theorem sc_Grammar_init : FnScope N_Grammar_init ["self", "alphabet", "variables", "rules"] (defScope s_Grammar_init) := ⟨rfl, rfl, rfl, by decide +kernel, rfl, by decide +kernel, by decide +kernel⟩

theorem sc_Grammar_eq : FnScope N_Grammar_eq ["self", "other"] (defScope s_Grammar_eq) := ⟨rfl, rfl, rfl, by decide +kernel, rfl, by decide +kernel, by decide +kernel⟩

theorem sc_read_number : FnScope N_read_number ["word"] (defScope s_read_number) := ⟨rfl, rfl, rfl, by decide +kernel, rfl, by decide +kernel, by decide +kernel⟩

theorem sc_format_side : FnScope N_format_side ["symbols"] (defScope s_format_side) := ⟨rfl, rfl, rfl, by decide +kernel, rfl, by decide +kernel, by decide +kernel⟩

theorem sc_format_grammar : FnScope N_format_grammar ["grammar"] (defScope s_format_grammar) := ⟨rfl, rfl, rfl, by decide +kernel, rfl, by decide +kernel, by decide +kernel⟩

theorem sc_read_side : FnScope N_read_side ["words"] (defScope s_read_side) := ⟨rfl, rfl, rfl, by decide +kernel, rfl, by decide +kernel, by decide +kernel⟩

theorem sc_read_rule : FnScope N_read_rule ["line"] (defScope s_read_rule) := ⟨rfl, rfl, rfl, by decide +kernel, rfl, by decide +kernel, by decide +kernel⟩

theorem sc_read_grammar_head : FnScope N_read_grammar_head ["line"] (defScope s_read_grammar_head) := ⟨rfl, rfl, rfl, by decide +kernel, rfl, by decide +kernel, by decide +kernel⟩

theorem sc_parse_grammar : FnScope N_parse_grammar ["text"] (defScope s_parse_grammar) := ⟨rfl, rfl, rfl, by decide +kernel, rfl, by decide +kernel, by decide +kernel⟩

theorem sc__law_whole : FnScope N__law_whole ["value"] (defScope s__law_whole) := ⟨rfl, rfl, rfl, by decide +kernel, rfl, by decide +kernel, by decide +kernel⟩

theorem sc__law_cell : FnScope N__law_cell ["script", "k"] (defScope s__law_cell) := ⟨rfl, rfl, rfl, by decide +kernel, rfl, by decide +kernel, by decide +kernel⟩

theorem sc__law_digits : FnScope N__law_digits ["cell", "sizes"] (defScope s__law_digits) := ⟨rfl, rfl, rfl, by decide +kernel, rfl, by decide +kernel, by decide +kernel⟩

theorem sc__law_alphabet : FnScope N__law_alphabet ["cell"] (defScope s__law_alphabet) := ⟨rfl, rfl, rfl, by decide +kernel, rfl, by decide +kernel, by decide +kernel⟩

theorem sc__law_is_alphabet : FnScope N__law_is_alphabet ["string"] (defScope s__law_is_alphabet) := ⟨rfl, rfl, rfl, by decide +kernel, rfl, by decide +kernel, by decide +kernel⟩

theorem sc__law_variable : FnScope N__law_variable ["digit", "variables"] (defScope s__law_variable) := ⟨rfl, rfl, rfl, by decide +kernel, rfl, by decide +kernel, by decide +kernel⟩

theorem sc__law_symbol : FnScope N__law_symbol ["digit", "alphabet", "variables"] (defScope s__law_symbol) := ⟨rfl, rfl, rfl, by decide +kernel, rfl, by decide +kernel, by decide +kernel⟩

theorem sc__law_rule : FnScope N__law_rule ["cell", "alphabet", "variables"] (defScope s__law_rule) := ⟨rfl, rfl, rfl, by decide +kernel, rfl, by decide +kernel, by decide +kernel⟩

theorem sc__law_side : FnScope N__law_side ["symbols"] (defScope s__law_side) := ⟨rfl, rfl, rfl, by decide +kernel, rfl, by decide +kernel, by decide +kernel⟩

theorem sc__law_written : FnScope N__law_written ["alphabet", "variables", "rules"] (defScope s__law_written) := ⟨rfl, rfl, rfl, by decide +kernel, rfl, by decide +kernel, by decide +kernel⟩

theorem sc__law_number : FnScope N__law_number ["word"] (defScope s__law_number) := ⟨rfl, rfl, rfl, by decide +kernel, rfl, by decide +kernel, by decide +kernel⟩

theorem sc__law_read_symbol : FnScope N__law_read_symbol ["word", "alphabet", "variables"] (defScope s__law_read_symbol) := ⟨rfl, rfl, rfl, by decide +kernel, rfl, by decide +kernel, by decide +kernel⟩

theorem sc__law_read_rule : FnScope N__law_read_rule ["line", "alphabet", "variables"] (defScope s__law_read_rule) := ⟨rfl, rfl, rfl, by decide +kernel, rfl, by decide +kernel, by decide +kernel⟩

theorem sc__law_read : FnScope N__law_read ["string"] (defScope s__law_read) := ⟨rfl, rfl, rfl, by decide +kernel, rfl, by decide +kernel, by decide +kernel⟩

theorem sc__law_word : FnScope N__law_word ["digit", "alphabet", "variables"] (defScope s__law_word) := ⟨rfl, rfl, rfl, by decide +kernel, rfl, by decide +kernel, by decide +kernel⟩

theorem sc__law_changed_line : FnScope N__law_changed_line ["line", "which", "digit", "word"] (defScope s__law_changed_line) := ⟨rfl, rfl, rfl, by decide +kernel, rfl, by decide +kernel, by decide +kernel⟩

theorem sc__law_changed : FnScope N__law_changed ["string", "row", "alphabet", "variables"] (defScope s__law_changed) := ⟨rfl, rfl, rfl, by decide +kernel, rfl, by decide +kernel, by decide +kernel⟩

theorem sc__law_side_alike : FnScope N__law_side_alike ["told", "side"] (defScope s__law_side_alike) := ⟨rfl, rfl, rfl, by decide +kernel, rfl, by decide +kernel, by decide +kernel⟩

theorem sc__law_kept : FnScope N__law_kept ["grammar", "alphabet", "variables", "rules"] (defScope s__law_kept) := ⟨rfl, rfl, rfl, by decide +kernel, rfl, by decide +kernel, by decide +kernel⟩

theorem sc__law_parsed : FnScope N__law_parsed ["string"] (defScope s__law_parsed) := ⟨rfl, rfl, rfl, by decide +kernel, rfl, by decide +kernel, by decide +kernel⟩

theorem sc__law_formatted : FnScope N__law_formatted ["grammar", "string"] (defScope s__law_formatted) := ⟨rfl, rfl, rfl, by decide +kernel, rfl, by decide +kernel, by decide +kernel⟩

theorem sc__law_read_alike : FnScope N__law_read_alike ["string"] (defScope s__law_read_alike) := ⟨rfl, rfl, rfl, by decide +kernel, rfl, by decide +kernel, by decide +kernel⟩

theorem sc_law : FnScope N_law ["script"] (defScope s_law) := ⟨rfl, rfl, rfl, by decide +kernel, rfl, by decide +kernel, by decide +kernel⟩

section
variable {P : Program} {w : World} {K : PySem.W.Frag} {mg : Str → Option Value} {base : Heap} {A : Ad}

theorem ok_is_alphabet (T : Txt K mg A)  {f : Addr} {fd : FuncData} (F : Fun K "is_alphabet" "is_alphabet" s_is_alphabet f fd) (hm : mg "is_alphabet" = some (.ref f)) (b : Binds K fd ["value"] []) :
    CalX P w K mg base CX0 1 "is_alphabet" (spP K (m_is_alphabet A)) :=
  ⟨f, fd, ["value"], F.ok sc_is_alphabet (spP_len fun ds r h => (mOf_len h).1) (fun cdv A' outer s H vs Q E hr h => by
    refine ⟨_, (pss_cons (ps_if (pt_not (pt_chain op_leU op_leU pe_int (pe_callB (r := rLenU K) call_lenU (by rfl) T.b_len PySem.boot_len (pa_cons (pv 0) pa_nil)) pe_int)) (pss_one (ps_ret pe_bl)) pss_nil)
 (pss_cons (ps_for PassesOwn.never rfl (pi_range1 (by rfl) T.b_range (pa_cons (pe_callB (r := rLenU K) call_lenU (by rfl) T.b_len PySem.boot_len (pa_cons (pv 0) pa_nil)) pa_nil)) (pg_name (i := 1) sc_is_alphabet.nd rfl (Or.inl rfl)) (pss_cons (ps_if (pt_cmpR (r := rNotInU K) op_notInU (pe_ix (r := rIx K) ix_seq (pv 0) (pv 1) (fun _ _ => rfl)) (pe_gc (by rfl) T.k_LETTERS) (by with_unfolding_all rfl)) (pss_one (ps_ret pe_bl)) pss_nil)
 (pss_one (ps_if (PW.pt (pw_and (pt_cmpR op_gtU (pv 1) pe_int (nomark _)) (pw_and1 (pt_cmpR op_geU (pe_ix (r := rIx K) ix_seq (pv 0) (pe_op op_sub (pv 1) pe_int) (fun _ _ => rfl)) (pe_ix (r := rIx K) ix_seq (pv 0) (pv 1) (fun _ _ => rfl)) (nomark _))))) (pss_one (ps_ret pe_bl)) pss_nil))))
 (pss_one (ps_ret pe_bl)))), run_def (E := E) rfl (fun W0 => ?_) h⟩
    exact (vs_seq (vs_if (vb_not (vb_test (b := false) (vt_chain (b1 := false) (b2 := false) (b3 := false) ros_cmp ros_cmp vt_int (vt_cbS (b1 := false) rcs_len (va_cons (vt_look 0) va_nil)) vt_int))) (vs_ret vt_bl) vs_next)
 (vs_seq (vs_for (vi_rg1 (b := false) (va_cons (vt_cbS (b1 := false) rcs_len (va_cons (vt_look 0) va_nil)) va_nil)) (vg_name 1) (vs_seq (vs_if (vb_test (b := false) (vt_opS (b1 := false) (b2 := false) ros_notIn (vt_ixv (i := 0) (b2 := false) (vt_look 1)) vt_str)) (vs_ret vt_bl) vs_next)
 (vs_if (vb_and (vb_test (b := false) (vt_opS (b1 := false) (b2 := false) ros_cmp (vt_look 1) vt_int)) (vb_test (b := false) (vt_opS (b1 := false) (b2 := false) ros_cmp (vt_ixv (i := 0) (b2 := false) (vt_opS (b1 := false) (b2 := false) ros_sub (vt_look 1) vt_int)) (vt_ixv (i := 0) (b2 := false) (vt_look 1))))) (vs_ret vt_bl) vs_next)))
 (vs_ret vt_bl)))), hm, F.kp, b⟩

theorem ok_check_alphabet (T : Txt K mg A) (c_is_alphabet : CalX P w K mg base CX0 1 "is_alphabet" (spP K (m_is_alphabet A))) {f : Addr} {fd : FuncData} (F : Fun K "check_alphabet" "check_alphabet" s_check_alphabet f fd) (hm : mg "check_alphabet" = some (.ref f)) (b : Binds K fd ["alphabet"] []) :
    CalX P w K mg base CX0 2 "check_alphabet" (spP K (m_check_alphabet A)) :=
  ⟨f, fd, ["alphabet"], F.ok sc_check_alphabet (spP_len fun ds r h => (mOf_len h).1) (fun cdv A' outer s H vs Q E hr h => by
    refine ⟨_, (pss_one (ps_if (pt_not (pt_truthK (K := K) rfl (pe_cx c_is_alphabet hr (by decide) pass0 (by rfl) (pa_cons (pv 0) pa_nil)) (fun _ => rfl))) (pss_one ps_never) pss_nil)), run_def (E := E) rfl (fun W0 => ?_) h⟩
    exact (vs_if (vb_not (vb_tru (b := false) (vt_call (va_cons (vt_look 0) va_nil)))) vs_never vs_next)), hm, F.kp, b⟩

theorem ok_is_whole (T : Txt K mg A)  {f : Addr} {fd : FuncData} (F : Fun K "is_whole" "is_whole" s_is_whole f fd) (hm : mg "is_whole" = some (.ref f)) (b : Binds K fd ["value"] []) :
    CalX P w K mg base CX0 1 "is_whole" (spP K (m_is_whole A)) :=
  ⟨f, fd, ["value"], F.ok sc_is_whole (spP_len fun ds r h => (mOf_len h).1) (fun cdv A' outer s H vs Q E hr h => by
    refine ⟨_, (pss_one (ps_ret (pe_and (pe_callB (r := rIsi K) call_isi (by rfl) T.b_isinstance (by decide +kernel) (pa_cons (pv 0) (pa_cons (pe_bltn (v := .ty "int") (u := .type "int") (by rfl) T.b_int (by decide +kernel) rfl) pa_nil))) (pe_one (pe_not (pe_callB (r := rIsi K) call_isi (by rfl) T.b_isinstance (by decide +kernel) (pa_cons (pv 0) (pa_cons (pe_bltn (v := .ty "bool") (u := .type "bool") (by rfl) T.b_bool (by decide +kernel) rfl) pa_nil)))))))), run_def (E := E) rfl (fun W0 => ?_) h⟩
    exact (vs_ret (vt_andV (b1 := false) (b2 := false) (vt_isi (n := "int") (b1 := false) (vt_look 0)) (vt_notV (b1 := false) (vt_isi (n := "bool") (b1 := false) (vt_look 0)))))), hm, F.kp, b⟩

theorem ok_is_variable (T : Txt K mg A)  {f : Addr} {fd : FuncData} (F : Fun K "is_variable" "is_variable" s_is_variable f fd) (hm : mg "is_variable" = some (.ref f)) (b : Binds K fd ["symbol"] []) :
    CalX P w K mg base CX0 1 "is_variable" (spP K (m_is_variable A)) :=
  ⟨f, fd, ["symbol"], F.ok sc_is_variable (spP_len fun ds r h => (mOf_len h).1) (fun cdv A' outer s H vs Q E hr h => by
    refine ⟨_, (pss_one (ps_ret (pe_not (pe_callB (r := rIsi K) call_isi (by rfl) T.b_isinstance (by decide +kernel) (pa_cons (pv 0) (pa_cons (pe_bltn (v := .ty "str") (u := .type "str") (by rfl) T.b_str (by decide +kernel) rfl) pa_nil)))))), run_def (E := E) rfl (fun W0 => ?_) h⟩
    exact (vs_ret (vt_notV (b1 := false) (vt_isi (n := "str") (b1 := false) (vt_look 0))))), hm, F.kp, b⟩

theorem ok_is_symbol (T : Txt K mg A) (c_is_whole : CalX P w K mg base CX0 1 "is_whole" (spP K (m_is_whole A))) {f : Addr} {fd : FuncData} (F : Fun K "is_symbol" "is_symbol" s_is_symbol f fd) (hm : mg "is_symbol" = some (.ref f)) (b : Binds K fd ["symbol", "alphabet", "variables"] []) :
    CalX P w K mg base CX0 2 "is_symbol" (spP K (m_is_symbol A)) :=
  ⟨f, fd, ["symbol", "alphabet", "variables"], F.ok sc_is_symbol (spP_len fun ds r h => (mOf_len h).1) (fun cdv A' outer s H vs Q E hr h => by
    refine ⟨_, (pss_cons (ps_if (pt_truthK (K := K) rfl (pe_callB (r := rIsi K) call_isi (by rfl) T.b_isinstance (by decide +kernel) (pa_cons (pv 0) (pa_cons (pe_bltn (v := .ty "str") (u := .type "str") (by rfl) T.b_str (by decide +kernel) rfl) pa_nil))) (fun _ => rfl)) (pss_one (ps_ret (pe_and (pe_cmpR (r := rEqU K) (op_eqU hr.units) (pe_callB (r := rLenU K) call_lenU (by rfl) T.b_len PySem.boot_len (pa_cons (pv 0) pa_nil)) pe_int (nomark _)) (pe_one (pe_cmpR (r := rInU K) op_inU (pv 0) (pv 1) (by with_unfolding_all rfl)))))) pss_nil)
 (pss_one (ps_ret (pe_and (pe_cx c_is_whole hr (by decide) pass0 (by rfl) (pa_cons (pv 0) pa_nil)) (pe_one (pe_chain op_leU op_ltU pe_int (pv 0) (pv 2))))))), run_def (E := E) rfl (fun W0 => ?_) h⟩
    exact (vs_seq (vs_if (vb_tru (b := false) (vt_isi (n := "str") (b1 := false) (vt_look 0))) (vs_ret (vt_andV (b1 := false) (b2 := false) (vt_opS (b1 := false) (b2 := false) ros_eq (vt_cbS (b1 := false) rcs_len (va_cons (vt_look 0) va_nil)) vt_int) (vt_opS (b1 := false) (b2 := false) ros_in (vt_look 0) (vt_look 1)))) vs_next)
 (vs_ret (vt_andV (b1 := false) (b2 := false) (vt_call (va_cons (vt_look 0) va_nil)) (vt_chain (b1 := false) (b2 := false) (b3 := false) ros_cmp ros_cmp vt_int (vt_look 0) (vt_look 2)))))), hm, F.kp, b⟩

theorem ok_is_rule (T : Txt K mg A) (c_is_symbol : CalX P w K mg base CX0 2 "is_symbol" (spP K (m_is_symbol A))) (c_is_variable : CalX P w K mg base CX0 1 "is_variable" (spP K (m_is_variable A))) {f : Addr} {fd : FuncData} (F : Fun K "is_rule" "is_rule" s_is_rule f fd) (hm : mg "is_rule" = some (.ref f)) (b : Binds K fd ["left", "right", "alphabet", "variables"] []) :
    CalX P w K mg base CX0 3 "is_rule" (spP K (m_is_rule A)) :=
  ⟨f, fd, ["left", "right", "alphabet", "variables"], F.ok sc_is_rule (spP_len fun ds r h => (mOf_len h).1) (fun cdv A' outer s H vs Q E hr h => by
    refine ⟨_, (pss_cons (ps_for PassesOwn.never rfl (pi_seqU (pe_op (r := rAddU K) op_addU (pv 0) (pv 1))) (pg_name (i := 4) sc_is_rule.nd rfl (Or.inl rfl)) (pss_one (ps_if (pt_not (pt_truthK (K := K) rfl (pe_cx c_is_symbol hr (by decide) pass0 (by rfl) (pa_cons (pv 4) (pa_cons (pv 2) (pa_cons (pv 3) pa_nil)))) (fun _ => rfl))) (pss_one (ps_ret pe_bl)) pss_nil)))
 (pss_cons (ps_for PassesOwn.never rfl (pi_seqU (pv 0)) (pg_name (i := 4) sc_is_rule.nd rfl (Or.inl rfl)) (pss_one (ps_if (pt_truthK (K := K) rfl (pe_cx c_is_variable hr (by decide) pass0 (by rfl) (pa_cons (pv 4) pa_nil)) (fun _ => rfl)) (pss_one (ps_ret pe_bl)) pss_nil)))
 (pss_one (ps_ret pe_bl)))), run_def (E := E) rfl (fun W0 => ?_) h⟩
    exact (vs_seq (vs_for (vi_seqU (vt_op ro_add (vt_var 0) (vt_var 1))) (vg_name 4) (vs_if (vb_not (vb_tru (b := false) (vt_call (va_cons (vt_look 4) (va_cons (vt_look 2) (va_cons (vt_look 3) va_nil)))))) (vs_ret vt_bl) vs_next))
 (vs_seq (vs_for (vi_seqU (vt_var 0)) (vg_name 4) (vs_if (vb_tru (b := false) (vt_call (va_cons (vt_look 4) va_nil))) (vs_ret vt_bl) vs_next))
 (vs_ret vt_bl)))), hm, F.kp, b⟩

theorem ok_Grammar_init (T : Txt K mg A) (c_check_alphabet : CalX P w K mg base CX0 2 "check_alphabet" (spP K (m_check_alphabet A))) (c_is_rule : CalX P w K mg base CX0 3 "is_rule" (spP K (m_is_rule A))) {f : Addr} {fd : FuncData} (M : Mk K A.C_Grammar f) (F : Fun K "__init__" "Grammar.__init__" s_Grammar_init f fd) (hm : mg "Grammar" = some (.ref A.C_Grammar)) (b : Binds K fd ["self", "alphabet", "variables", "rules"] []) :
    MakX P w K mg base CX0 4 "Grammar" A.C_Grammar (spI K A.C_Grammar (i_Grammar A)) :=
  ⟨f, fd, _, M, F.ok sc_Grammar_init (spI_len fun ds r h => iOf_len h) (fun cdv A' outer s H vs Q E hr h => by
    refine ⟨_, (pss_cons (ps_expr (pe_cx c_check_alphabet hr (by decide) pass0 (by rfl) (pa_cons (pv 1) pa_nil)))
 (pss_cons (ps_if (pt_cmpR op_ltU (pv 2) pe_int (nomark _)) (pss_one ps_never) pss_nil)
 (pss_cons (ps_set (i := 4) sc_Grammar_init.nd rfl (Or.inl rfl) (pe_lst pa_nil))
 (pss_cons (ps_for PassesOwn.never rfl (pi_enumU (by rfl) T.b_enumerate (pa_cons (pv 3) pa_nil)) (pg_tupU (K := K) rfl rfl (pgs_cons (pg_name (i := 5) sc_Grammar_init.nd rfl (Or.inl rfl)) (pgs_cons (pg_name (i := 6) sc_Grammar_init.nd rfl (Or.inl rfl)) pgs_nil))) (pss_cons (ps_par (i := 7) (j := 8) rfl sc_Grammar_init.nd rfl rfl (by decide) rfl rfl (pa_cons (pe_callTy (r := rTupleU K) call_tupleU (by rfl) T.b_tuple PyProof.Rows.boot_tuple (pa_cons (pe_ix (r := rIx K) ix_seq (pv 6) pe_int (fun _ _ => rfl)) pa_nil)) (pa_cons (pe_callTy (r := rTupleU K) call_tupleU (by rfl) T.b_tuple PyProof.Rows.boot_tuple (pa_cons (pe_ix (r := rIx K) ix_seq (pv 6) pe_int (fun _ _ => rfl)) pa_nil)) pa_nil)) (by rfl))
 (pss_cons (ps_if (pt_not (pt_truthK (K := K) rfl (pe_cx c_is_rule hr (by decide) pass0 (by rfl) (pa_cons (pv 7) (pa_cons (pv 8) (pa_cons (pv 1) (pa_cons (pv 2) pa_nil))))) (fun _ => rfl))) (pss_one ps_never) pss_nil)
 (pss_one (ps_expr (pe_bm PySem.F.plainAttrs_list PySem.F.slot_list_append PySem.F.type_list_append mt_append (pv 4) (pa_cons (pe_tup (pa_cons (pv 7) (pa_cons (pv 8) pa_nil))) pa_nil)))))))
 (pss_cons (ps_fld (pv 0) (pv 1) rfl)
 (pss_cons (ps_fld (pv 0) (pv 2) rfl)
 (pss_one (ps_fld (pv 0) (pe_callTy (r := rTupleU K) call_tupleU (by rfl) T.b_tuple PyProof.Rows.boot_tuple (pa_cons (pv 4) pa_nil)) rfl)))))))), run_init (E := E) rfl (fun W0 => ?_) h⟩
    exact (vs_seq (vs_expr (b := false) (vt_call (va_cons (vt_look 1) va_nil)))
 (vs_seq (vs_if (vb_test (b := false) (vt_opS (b1 := false) (b2 := false) ros_cmp (vt_look 2) vt_int)) vs_never vs_next)
 (vs_seq (vs_asgN (i := 4) (vn_lst va_nil))
 (vs_seq (vs_for (vi_enum (vt_var 3)) (vg_tupU (vgs_cons (vg_name 5) (vgs_cons (vg_name 6) vgs_nil))) (vs_seq (vs_par (va_cons (vt_cb rc_tuple (va_cons (vt_ixv (i := 6) (b2 := false) vt_int) va_nil)) (va_cons (vt_cb rc_tuple (va_cons (vt_ixv (i := 6) (b2 := false) vt_int) va_nil)) va_nil)))
 (vs_seq (vs_if (vb_not (vb_tru (b := false) (vt_call (va_cons (vt_look 7) (va_cons (vt_look 8) (va_cons (vt_look 1) (va_cons (vt_look 2) va_nil))))))) vs_never vs_next)
 (vs_append (i := 4) (vt_tup (va_cons (vt_var 7) (va_cons (vt_var 8) va_nil)))))))
 (vs_seq (vs_fldS T.c_Grammar T.n_Grammar_alphabet (vt_var 1))
 (vs_seq (vs_fldS T.c_Grammar T.n_Grammar_variables (vt_var 2))
 (vs_frz 4 (vs_fldS T.c_Grammar T.n_Grammar_rules (vt_cb rc_tuple (va_cons (vt_var 4) va_nil))))))))))), hm, b⟩

theorem ok_Grammar_eq (T : Txt K mg A)  {f : Addr} {fd : FuncData} (F : Fun K "__eq__" "Grammar.__eq__" s_Grammar_eq f fd) (iC : PySem.W.findIn K (.ref A.C_Grammar) "__eq__" = some (some (.ref f))) (iF : PySem.W.isFn K (.ref f) = true) (b : Binds K fd ["self", "other"] []) :
    EqX P w K mg base 1 A.C_Grammar (m_Grammar_eq A) :=
  ⟨f, fd, ["self", "other"], F.ok sc_Grammar_eq (fun vs H Q E h => by obtain ⟨_, _, rfl, _⟩ := h; rfl) (fun cdv A' outer s H vs Q E hr h => by
    refine ⟨_, (pss_one (ps_ret (pe_and (pe_callB (r := rIsC A.C_Grammar) (call_isCU T.ic_Grammar) (by rfl) T.b_isinstance (by decide +kernel) (pa_cons (pv 1) (pa_cons (pe_glob (v := .ref A.C_Grammar) (by rfl) T.g_Grammar rfl) pa_nil))) (pe_and (pe_cmpR (r := rEqU K) (op_eqU hr.units) (pe_fldK (K := K) rfl (pv 0) rfl) (pe_fldK (K := K) rfl (pv 1) rfl) (nomark _)) (pe_and (pe_cmpR (r := rEqU K) (op_eqU hr.units) (pe_fldK (K := K) rfl (pv 0) rfl) (pe_fldK (K := K) rfl (pv 1) rfl) (nomark _)) (pe_one (pe_cmpR (r := rEqU K) (op_eqU hr.units) (pe_fldK (K := K) rfl (pv 0) rfl) (pe_fldK (K := K) rfl (pv 1) rfl) (nomark _)))))))), run_def (E := E) rfl (fun W0 => ?_) (spEq_of h)⟩
    exact (vs_ret (vt_andV (b1 := false) (b2 := false) (vt_isC (b' := false) (vt_look 1)) (vt_andV (b1 := false) (b2 := false) (vt_opS (b1 := false) (b2 := false) ros_eq (vt_fld T.c_Grammar T.n_Grammar_alphabet (vt_look 0)) (vt_fld T.c_Grammar T.n_Grammar_alphabet (vt_look 1))) (vt_andV (b1 := false) (b2 := false) (vt_opS (b1 := false) (b2 := false) ros_eq (vt_fld T.c_Grammar T.n_Grammar_variables (vt_look 0)) (vt_fld T.c_Grammar T.n_Grammar_variables (vt_look 1))) (vt_opS (b1 := false) (b2 := false) ros_eq (vt_fld T.c_Grammar T.n_Grammar_rules (vt_look 0)) (vt_fld T.c_Grammar T.n_Grammar_rules (vt_look 1)))))))), iC, iF, b⟩

theorem ok_read_number (T : Txt K mg A)  {f : Addr} {fd : FuncData} (F : Fun K "read_number" "read_number" s_read_number f fd) (hm : mg "read_number" = some (.ref f)) (b : Binds K fd ["word"] []) :
    CalX P w K mg base CX0 1 "read_number" (spP K (m_read_number A)) :=
  ⟨f, fd, ["word"], F.ok sc_read_number (spP_len fun ds r h => (mOf_len h).1) (fun cdv A' outer s H vs Q E hr h => by
    refine ⟨_, (pss_cons (ps_if (PW.pt (pw_or (pt_not (pt_chain op_leU op_leU pe_int (pe_callB (r := rLenU K) call_lenU (by rfl) T.b_len PySem.boot_len (pa_cons (pv 0) pa_nil)) pe_int)) (pw_or1 (PW.pt (pw_and (pt_cmpR (r := rEqU K) (op_eqU hr.units) (pe_ix (r := rIx K) ix_seq (pv 0) pe_int (fun _ _ => rfl)) pe_str (nomark _)) (pw_and1 (pt_cmpR op_gtU (pe_callB (r := rLenU K) call_lenU (by rfl) T.b_len PySem.boot_len (pa_cons (pv 0) pa_nil)) pe_int (nomark _)))))))) (pss_one (ps_ret pe_non)) pss_nil)
 (pss_cons (ps_for PassesOwn.never rfl (pi_seqU (pv 0)) (pg_name (i := 1) sc_read_number.nd rfl (Or.inl rfl)) (pss_one (ps_if (pt_cmpR (r := rNotInU K) op_notInU (pv 1) (pe_gc (by rfl) T.k_DIGITS) (by with_unfolding_all rfl)) (pss_one (ps_ret pe_non)) pss_nil)))
 (pss_one (ps_ret (pe_callTy call_intT (by rfl) T.b_int PyProof.Rows.boot_int (pa_cons (pv 0) pa_nil)))))), run_def (E := E) rfl (fun W0 => ?_) h⟩
    exact (vs_seq (vs_if (vb_or (vb_not (vb_test (b := false) (vt_chain (b1 := false) (b2 := false) (b3 := false) ros_cmp ros_cmp vt_int (vt_cbS (b1 := false) rcs_len (va_cons (vt_look 0) va_nil)) vt_int))) (vb_and (vb_test (b := false) (vt_opS (b1 := false) (b2 := false) ros_eq (vt_ixv (i := 0) (b2 := false) vt_int) vt_str)) (vb_test (b := false) (vt_opS (b1 := false) (b2 := false) ros_cmp (vt_cbS (b1 := false) rcs_len (va_cons (vt_look 0) va_nil)) vt_int)))) (vs_ret vt_non) vs_next)
 (vs_seq (vs_for (vi_seqU (vt_var 0)) (vg_name 1) (vs_if (vb_test (b := false) (vt_opS (b1 := false) (b2 := false) ros_notIn (vt_look 1) vt_str)) (vs_ret vt_non) vs_next))
 (vs_ret (vt_cbS (b1 := false) rcs_intT (va_cons (vt_look 0) va_nil)))))), hm, F.kp, b⟩

theorem ok_format_side (T : Txt K mg A)  {f : Addr} {fd : FuncData} (F : Fun K "format_side" "format_side" s_format_side f fd) (hm : mg "format_side" = some (.ref f)) (b : Binds K fd ["symbols"] []) :
    CalX P w K mg base CX0 1 "format_side" (spP K (m_format_side A)) :=
  ⟨f, fd, ["symbols"], F.ok sc_format_side (spP_len fun ds r h => (mOf_len h).1) (fun cdv A' outer s H vs Q E hr h => by
    refine ⟨_, (pss_cons (ps_if (pt_cmpR (r := rEqU K) (op_eqU hr.units) (pe_callB (r := rLenU K) call_lenU (by rfl) T.b_len PySem.boot_len (pa_cons (pv 0) pa_nil)) pe_int (nomark _)) (pss_one (ps_ret pe_str)) pss_nil)
 (pss_one (ps_ret (pe_joinU (K := K) rfl pe_str (pe_lc (own := [("symbol", 1)]) rfl sc_format_side.nd (pi_seqU (pv 0)) (blkOk_by (N := N_format_side) (sc := defScope s_format_side) (by decide +kernel)) (fun _ _ _ _ _ => (pg_name (i := 1) sc_format_side.nd rfl (Or.inl rfl))) (fun _ _ _ _ _ => pts_nil) (fun _ _ _ _ _ => (pe_callTy (r := rStrU) call_strU (by rfl) T.b_str (by decide +kernel) (pa_cons (pv 1) pa_nil)))))))), run_def (E := E) rfl (fun W0 => ?_) h⟩
    exact (vs_seq (vs_if (vb_test (b := false) (vt_opS (b1 := false) (b2 := false) ros_eq (vt_cbS (b1 := false) rcs_len (va_cons (vt_look 0) va_nil)) vt_int)) (vs_ret vt_str) vs_next)
 (vs_ret (vt_join (b1 := false) (b2 := false) vt_str (vt_vn (vn_lc (vi_seqU (vt_var 0)) (vg_name 1) (by decide) vb_yes (vt_cbS (b1 := false) rcs_str (va_cons (vt_look 1) va_nil)))))))), hm, F.kp, b⟩

theorem ok_format_grammar (T : Txt K mg A) (c_format_side : CalX P w K mg base CX0 1 "format_side" (spP K (m_format_side A))) {f : Addr} {fd : FuncData} (F : Fun K "format_grammar" "format_grammar" s_format_grammar f fd) (hm : mg "format_grammar" = some (.ref f)) (b : Binds K fd ["grammar"] []) :
    CalX P w K mg base CX0 2 "format_grammar" (spP K (m_format_grammar A)) :=
  ⟨f, fd, ["grammar"], F.ok sc_format_grammar (spP_len fun ds r h => (mOf_len h).1) (fun cdv A' outer s H vs Q E hr h => by
    refine ⟨_, (pss_cons (ps_set (i := 1) sc_format_grammar.nd rfl (Or.inl rfl) (pe_lst (pa_cons (pe_joined (PJ.cons pe_str (PJ.cons (pe_fmt (pe_fldK (K := K) rfl (pv 0) rfl)) (PJ.cons pe_str (PJ.cons (pe_fmt (pe_fldK (K := K) rfl (pv 0) rfl)) PJ.nil))))) pa_nil)))
 (pss_cons (ps_for PassesOwn.never rfl (pi_seqU (pe_fldK (K := K) rfl (pv 0) rfl)) (pg_tupU (K := K) rfl rfl (pgs_cons (pg_name (i := 2) sc_format_grammar.nd rfl (Or.inl rfl)) (pgs_cons (pg_name (i := 3) sc_format_grammar.nd rfl (Or.inl rfl)) pgs_nil))) (pss_one (ps_expr (pe_bm PySem.F.plainAttrs_list PySem.F.slot_list_append PySem.F.type_list_append mt_append (pv 1) (pa_cons (pe_op (r := rAddU K) op_addU (pe_op (r := rAddU K) op_addU (pe_cx c_format_side hr (by decide) pass0 (by rfl) (pa_cons (pv 2) pa_nil)) pe_str) (pe_cx c_format_side hr (by decide) pass0 (by rfl) (pa_cons (pv 3) pa_nil))) pa_nil)))))
 (pss_one (ps_ret (pe_joinU (K := K) rfl pe_str (pv 1)))))), run_def (E := E) rfl (fun W0 => ?_) h⟩
    exact (vs_seq (vs_asgN (i := 1) (vn_lst (va_cons (vt_joined (VJ.cons vt_str (VJ.cons (vt_fmt (b' := false) (vt_fld T.c_Grammar T.n_Grammar_alphabet (vt_look 0))) (VJ.cons vt_str (VJ.cons (vt_fmt (b' := false) (vt_fld T.c_Grammar T.n_Grammar_variables (vt_look 0))) VJ.nil))))) va_nil)))
 (vs_seq (vs_for (vi_seqU (vt_fld T.c_Grammar T.n_Grammar_rules (vt_var 0))) (vg_tupU (vgs_cons (vg_name 2) (vgs_cons (vg_name 3) vgs_nil))) (vs_append (i := 1) (vt_op ro_add (vt_op ro_add (vt_call (va_cons (vt_var 2) va_nil)) vt_str) (vt_call (va_cons (vt_var 3) va_nil)))))
 (vs_ret (vt_join (b1 := false) (b2 := false) vt_str (vt_look 1)))))), hm, F.kp, b⟩

theorem ok_read_side (T : Txt K mg A) (c_read_number : CalX P w K mg base CX0 1 "read_number" (spP K (m_read_number A))) {f : Addr} {fd : FuncData} (F : Fun K "read_side" "read_side" s_read_side f fd) (hm : mg "read_side" = some (.ref f)) (b : Binds K fd ["words"] []) :
    CalX P w K mg base CX0 2 "read_side" (spP K (m_read_side A)) :=
  ⟨f, fd, ["words"], F.ok sc_read_side (spP_len fun ds r h => (mOf_len h).1) (fun cdv A' outer s H vs Q E hr h => by
    refine ⟨_, (pss_cons (ps_set (i := 1) sc_read_side.nd rfl (Or.inl rfl) (pe_lst pa_nil))
 (pss_cons (ps_for PassesOwn.never rfl (pi_seqU (pv 0)) (pg_name (i := 2) sc_read_side.nd rfl (Or.inl rfl)) (pss_one (ps_if (PW.pt (pw_and (pt_cmpR (r := rEqU K) (op_eqU hr.units) (pe_callB (r := rLenU K) call_lenU (by rfl) T.b_len PySem.boot_len (pa_cons (pv 2) pa_nil)) pe_int (nomark _)) (pw_and1 (pt_cmpR (r := rInU K) op_inU (pv 2) (pe_gc (by rfl) T.k_LETTERS) (by with_unfolding_all rfl))))) (pss_one (ps_expr (pe_bm PySem.F.plainAttrs_list PySem.F.slot_list_append PySem.F.type_list_append mt_append (pv 1) (pa_cons (pv 2) pa_nil)))) (pss_cons (ps_set (i := 3) sc_read_side.nd rfl (Or.inl rfl) (pe_cx c_read_number hr (by decide) pass0 (by rfl) (pa_cons (pv 2) pa_nil)))
 (pss_cons (ps_if (pt_cmpR op_isU (pv 3) pe_non (nomark _)) (pss_one (ps_ret pe_non)) pss_nil)
 (pss_one (ps_expr (pe_bm PySem.F.plainAttrs_list PySem.F.slot_list_append PySem.F.type_list_append mt_append (pv 1) (pa_cons (pv 3) pa_nil)))))))))
 (pss_one (ps_ret (pe_callTy (r := rTupleU K) call_tupleU (by rfl) T.b_tuple PyProof.Rows.boot_tuple (pa_cons (pv 1) pa_nil)))))), run_def (E := E) rfl (fun W0 => ?_) h⟩
    exact (vs_seq (vs_asgN (i := 1) (vn_lst va_nil))
 (vs_seq (vs_for (vi_seqU (vt_var 0)) (vg_name 2) (vs_if (vb_and (vb_test (b := false) (vt_opS (b1 := false) (b2 := false) ros_eq (vt_cbS (b1 := false) rcs_len (va_cons (vt_look 2) va_nil)) vt_int)) (vb_test (b := false) (vt_opS (b1 := false) (b2 := false) ros_in (vt_look 2) vt_str))) (vs_append (i := 1) (vt_var 2)) (vs_seq (vs_asg (vt_call (va_cons (vt_var 2) va_nil)) (vg_name 3))
 (vs_seq (vs_if (vb_test (b := false) (vt_opS (b1 := false) (b2 := false) ros_is (vt_look 3) vt_non)) (vs_ret vt_non) vs_next)
 (vs_append (i := 1) (vt_var 3))))))
 (vs_ret (vt_cb rc_tuple (va_cons (vt_var 1) va_nil)))))), hm, F.kp, b⟩

theorem ok_read_rule (T : Txt K mg A) (c_read_side : CalX P w K mg base CX0 2 "read_side" (spP K (m_read_side A))) {f : Addr} {fd : FuncData} (F : Fun K "read_rule" "read_rule" s_read_rule f fd) (hm : mg "read_rule" = some (.ref f)) (b : Binds K fd ["line"] []) :
    CalX P w K mg base CX0 3 "read_rule" (spP K (m_read_rule A)) :=
  ⟨f, fd, ["line"], F.ok sc_read_rule (spP_len fun ds r h => (mOf_len h).1) (fun cdv A' outer s H vs Q E hr h => by
    refine ⟨_, (pss_cons (ps_set (i := 1) sc_read_rule.nd rfl (Or.inl rfl) (pe_splitU (pv 0) pe_str))
 (pss_cons (ps_if (pt_cmpR (r := rNeU K) (op_neU hr.units) (pe_cntK (K := K) rfl (pv 1) (pa_cons pe_str pa_nil)) pe_int (nomark _)) (pss_one (ps_ret pe_non)) pss_nil)
 (pss_cons (ps_set (i := 2) sc_read_rule.nd rfl (Or.inl rfl) (pe_idxK (K := K) rfl (pv 1) (pa_cons pe_str pa_nil)))
 (pss_cons (ps_set (i := 3) sc_read_rule.nd rfl (Or.inl rfl) (pe_cx c_read_side hr (by decide) pass0 (by rfl) (pa_cons (pe_slice (r := rCutU K) sl_U (pv 1) po_none (po_some (pv 2))) pa_nil)))
 (pss_cons (ps_set (i := 4) sc_read_rule.nd rfl (Or.inl rfl) (pe_ifExp (pt_cmpR (r := rEqU K) (op_eqU hr.units) (pe_slice (r := rCutU K) sl_U (pv 1) (po_some (pe_op (r := rAddU K) op_addU (pv 2) pe_int)) po_none) (pe_lst (pa_cons pe_str pa_nil)) (nomark _)) (pe_tup pa_nil) (pe_cx c_read_side hr (by decide) pass0 (by rfl) (pa_cons (pe_slice (r := rCutU K) sl_U (pv 1) (po_some (pe_op (r := rAddU K) op_addU (pv 2) pe_int)) po_none) pa_nil))))
 (pss_cons (ps_if (PW.pt (pw_or (pt_cmpR op_isU (pv 3) pe_non (nomark _)) (pw_or (pt_cmpR op_isU (pv 4) pe_non (nomark _)) (pw_or1 (PW.pt (pw_and (pt_cmpR (r := rEqU K) (op_eqU hr.units) (pv 4) (pe_tup pa_nil) (nomark _)) (pw_and1 (pt_cmpR (r := rNeU K) (op_neU hr.units) (pe_slice (r := rCutU K) sl_U (pv 1) (po_some (pe_op (r := rAddU K) op_addU (pv 2) pe_int)) po_none) (pe_lst (pa_cons pe_str pa_nil)) (nomark _))))))))) (pss_one (ps_ret pe_non)) pss_nil)
 (pss_one (ps_ret (pe_tup (pa_cons (pv 3) (pa_cons (pv 4) pa_nil))))))))))), run_def (E := E) rfl (fun W0 => ?_) h⟩
    exact (vs_seq (vs_asg (vt_vn (vn_split (b1 := false) (b2 := false) (vt_look 0) vt_str)) (vg_name 1))
 (vs_seq (vs_if (vb_test (b := false) (vt_opS (b1 := false) (b2 := false) ros_ne (vt_cnt (b1 := false) (b2 := false) (vt_look 1) vt_str) vt_int)) (vs_ret vt_non) vs_next)
 (vs_seq (vs_asg (vt_idx (b1 := false) (b2 := false) (vt_look 1) vt_str) (vg_name 2))
 (vs_seq (vs_asg (vt_call (va_cons (vt_cut (vt_var 1) vo_none (vo_some (b := false) (vt_look 2))) va_nil)) (vg_name 3))
 (vs_seq (vs_asg (vt_ifE (vb_test (b := false) (vt_opS (b1 := false) (b2 := false) ros_eq (vt_cut (vt_look 1) (vo_some (b := false) (vt_op ro_add (vt_look 2) vt_int)) vo_none) (vt_vn (vn_lst (va_cons vt_str va_nil))))) (vt_tup va_nil) (vt_call (va_cons (vt_cut (vt_var 1) (vo_some (b := false) (vt_op ro_add (vt_look 2) vt_int)) vo_none) va_nil))) (vg_name 4))
 (vs_seq (vs_if (vb_or (vb_test (b := false) (vt_opS (b1 := false) (b2 := false) ros_is (vt_look 3) vt_non)) (vb_or (vb_test (b := false) (vt_opS (b1 := false) (b2 := false) ros_is (vt_look 4) vt_non)) (vb_and (vb_test (b := false) (vt_opS (b1 := false) (b2 := false) ros_eq (vt_look 4) (vt_tup va_nil))) (vb_test (b := false) (vt_opS (b1 := false) (b2 := false) ros_ne (vt_cut (vt_look 1) (vo_some (b := false) (vt_op ro_add (vt_look 2) vt_int)) vo_none) (vt_vn (vn_lst (va_cons vt_str va_nil)))))))) (vs_ret vt_non) vs_next)
 (vs_ret (vt_tup (va_cons (vt_var 3) (va_cons (vt_var 4) va_nil))))))))))), hm, F.kp, b⟩

theorem ok_read_grammar_head (T : Txt K mg A) (c_is_alphabet : CalX P w K mg base CX0 1 "is_alphabet" (spP K (m_is_alphabet A))) (c_read_number : CalX P w K mg base CX0 1 "read_number" (spP K (m_read_number A))) {f : Addr} {fd : FuncData} (F : Fun K "read_grammar_head" "read_grammar_head" s_read_grammar_head f fd) (hm : mg "read_grammar_head" = some (.ref f)) (b : Binds K fd ["line"] []) :
    CalX P w K mg base CX0 2 "read_grammar_head" (spP K (m_read_grammar_head A)) :=
  ⟨f, fd, ["line"], F.ok sc_read_grammar_head (spP_len fun ds r h => (mOf_len h).1) (fun cdv A' outer s H vs Q E hr h => by
    refine ⟨_, (pss_cons (ps_set (i := 1) sc_read_grammar_head.nd rfl (Or.inl rfl) (pe_splitU (pv 0) pe_str))
 (pss_cons (ps_if (PW.pt (pw_or (pt_cmpR (r := rNeU K) (op_neU hr.units) (pe_callB (r := rLenU K) call_lenU (by rfl) T.b_len PySem.boot_len (pa_cons (pv 1) pa_nil)) pe_int (nomark _)) (pw_or (pt_cmpR (r := rNeU K) (op_neU hr.units) (pe_ix (r := rIx K) ix_seq (pv 1) pe_int (fun _ _ => rfl)) pe_str (nomark _)) (pw_or (pt_cmpR (r := rNeU K) (op_neU hr.units) (pe_ix (r := rIx K) ix_seq (pv 1) pe_int (fun _ _ => rfl)) pe_str (nomark _)) (pw_or1 (pt_not (pt_truthK (K := K) rfl (pe_cx c_is_alphabet hr (by decide) pass0 (by rfl) (pa_cons (pe_ix (r := rIx K) ix_seq (pv 1) pe_int (fun _ _ => rfl)) pa_nil)) (fun _ => rfl)))))))) (pss_one (ps_ret pe_non)) pss_nil)
 (pss_cons (ps_set (i := 2) sc_read_grammar_head.nd rfl (Or.inl rfl) (pe_cx c_read_number hr (by decide) pass0 (by rfl) (pa_cons (pe_ix (r := rIx K) ix_seq (pv 1) pe_int (fun _ _ => rfl)) pa_nil)))
 (pss_cons (ps_if (PW.pt (pw_or (pt_cmpR op_isU (pv 2) pe_non (nomark _)) (pw_or1 (pt_cmpR op_ltU (pv 2) pe_int (nomark _))))) (pss_one (ps_ret pe_non)) pss_nil)
 (pss_one (ps_ret (pe_tup (pa_cons (pe_ix (r := rIx K) ix_seq (pv 1) pe_int (fun _ _ => rfl)) (pa_cons (pv 2) pa_nil))))))))), run_def (E := E) rfl (fun W0 => ?_) h⟩
    exact (vs_seq (vs_asg (vt_vn (vn_split (b1 := false) (b2 := false) (vt_look 0) vt_str)) (vg_name 1))
 (vs_seq (vs_if (vb_or (vb_test (b := false) (vt_opS (b1 := false) (b2 := false) ros_ne (vt_cbS (b1 := false) rcs_len (va_cons (vt_look 1) va_nil)) vt_int)) (vb_or (vb_test (b := false) (vt_opS (b1 := false) (b2 := false) ros_ne (vt_ixv (i := 1) (b2 := false) vt_int) vt_str)) (vb_or (vb_test (b := false) (vt_opS (b1 := false) (b2 := false) ros_ne (vt_ixv (i := 1) (b2 := false) vt_int) vt_str)) (vb_not (vb_tru (b := false) (vt_call (va_cons (vt_ixv (i := 1) (b2 := false) vt_int) va_nil))))))) (vs_ret vt_non) vs_next)
 (vs_seq (vs_asg (vt_call (va_cons (vt_ixv (i := 1) (b2 := false) vt_int) va_nil)) (vg_name 2))
 (vs_seq (vs_if (vb_or (vb_test (b := false) (vt_opS (b1 := false) (b2 := false) ros_is (vt_look 2) vt_non)) (vb_test (b := false) (vt_opS (b1 := false) (b2 := false) ros_cmp (vt_look 2) vt_int))) (vs_ret vt_non) vs_next)
 (vs_ret (vt_tup (va_cons (vt_ixv (i := 1) (b2 := false) vt_int) (va_cons (vt_var 2) va_nil))))))))), hm, F.kp, b⟩

theorem ok_parse_grammar (T : Txt K mg A) (c_Grammar : MakX P w K mg base CX0 4 "Grammar" A.C_Grammar (spI K A.C_Grammar (i_Grammar A))) (c_is_rule : CalX P w K mg base CX0 3 "is_rule" (spP K (m_is_rule A))) (c_read_grammar_head : CalX P w K mg base CX0 2 "read_grammar_head" (spP K (m_read_grammar_head A))) (c_read_rule : CalX P w K mg base CX0 3 "read_rule" (spP K (m_read_rule A))) (x_BadLine : ExcX P w K mg base 1 "BadLine" A.C_BadLine (spX1 A.C_BadLine "index")) {f : Addr} {fd : FuncData} (F : Fun K "parse_grammar" "parse_grammar" s_parse_grammar f fd) (hm : mg "parse_grammar" = some (.ref f)) (b : Binds K fd ["text"] []) :
    CalX P w K mg base (L2.CX P w) 6 "parse_grammar" (spP K (m_parse_grammar A)) :=
  ⟨f, fd, ["text"], F.okX sc_parse_grammar (spP_len fun ds r h => (mOf_len h).1) (fun cdv A' outer s H vs Q E hr h => by
    refine ⟨_, (pss_cons (ps_set (i := 1) sc_parse_grammar.nd rfl (Or.inl rfl) (pe_splitU (pv 0) pe_str))
 (pss_cons (ps_set (i := 2) sc_parse_grammar.nd rfl (Or.inl rfl) (pe_cx c_read_grammar_head hr (by decide) pass0 (by rfl) (pa_cons (pe_ix (r := rIx K) ix_seq (pv 1) pe_int (fun _ _ => rfl)) pa_nil)))
 (pss_cons (ps_if (pt_cmpR op_isU (pv 2) pe_non (nomark _)) (pss_one (ps_raise rfl (takes_of rfl rfl rfl rfl) (pmk_x x_BadLine hr (by decide) (by rfl) (pa_cons pe_int pa_nil)))) pss_nil)
 (pss_cons (ps_asg (pv 2) (pg_tupU (K := K) rfl rfl (pgs_cons (pg_name (i := 3) sc_parse_grammar.nd rfl (Or.inl rfl)) (pgs_cons (pg_name (i := 4) sc_parse_grammar.nd rfl (Or.inl rfl)) pgs_nil))))
 (pss_cons (ps_set (i := 5) sc_parse_grammar.nd rfl (Or.inl rfl) (pe_lst pa_nil))
 (pss_cons (ps_for (passes_of rfl) rfl (pi_range2 (by rfl) T.b_range (pa_cons pe_int (pa_cons (pe_callB (r := rLenU K) call_lenU (by rfl) T.b_len PySem.boot_len (pa_cons (pv 1) pa_nil)) pa_nil))) (pg_name (i := 6) sc_parse_grammar.nd rfl (Or.inl rfl)) (pss_cons (ps_set (i := 7) sc_parse_grammar.nd rfl (Or.inl rfl) (pe_cx c_read_rule hr (by decide) pass0 (by rfl) (pa_cons (pe_ix (r := rIx K) ix_seq (pv 1) (pv 6) (fun _ _ => rfl)) pa_nil)))
 (pss_cons (ps_if (PW.pt (pw_or (pt_cmpR op_isU (pv 7) pe_non (nomark _)) (pw_or1 (pt_not (pt_truthK (K := K) rfl (pe_cx c_is_rule hr (by decide) pass0 (by rfl) (pa_cons (pe_ix (r := rIx K) ix_seq (pv 7) pe_int (fun _ _ => rfl)) (pa_cons (pe_ix (r := rIx K) ix_seq (pv 7) pe_int (fun _ _ => rfl)) (pa_cons (pv 3) (pa_cons (pv 4) pa_nil))))) (fun _ => rfl)))))) (pss_one (ps_raise rfl (takes_of rfl rfl rfl rfl) (pmk_x x_BadLine hr (by decide) (by rfl) (pa_cons (pv 6) pa_nil)))) pss_nil)
 (pss_one (ps_expr (pe_bm PySem.F.plainAttrs_list PySem.F.slot_list_append PySem.F.type_list_append mt_append (pv 5) (pa_cons (pv 7) pa_nil)))))))
 (pss_one (ps_ret (pe_mx c_Grammar hr (by decide) pass0 (by rfl) (pa_cons (pv 3) (pa_cons (pv 4) (pa_cons (pv 5) pa_nil)))))))))))), run_def (E := E) rfl (fun W0 => ?_) h⟩
    exact (vs_seq (vs_asg (vt_vn (vn_split (b1 := false) (b2 := false) (vt_look 0) vt_str)) (vg_name 1))
 (vs_seq (vs_asg (vt_call (va_cons (vt_ixv (i := 1) (b2 := false) vt_int) va_nil)) (vg_name 2))
 (vs_seq (vs_if (vb_test (b := false) (vt_opS (b1 := false) (b2 := false) ros_is (vt_look 2) vt_non)) (vs_raise1 (va_cons vt_int va_nil)) vs_next)
 (vs_seq (vs_asg (vt_var 2) (vg_tupU (vgs_cons (vg_name 3) (vgs_cons (vg_name 4) vgs_nil))))
 (vs_seq (vs_asgN (i := 5) (vn_lst va_nil))
 (vs_seq (vs_for (vi_rg2 (b := false) (va_cons vt_int (va_cons (vt_cbS (b1 := false) rcs_len (va_cons (vt_look 1) va_nil)) va_nil))) (vg_name 6) (vs_seq (vs_asg (vt_call (va_cons (vt_ixv (i := 1) (b2 := false) (vt_look 6)) va_nil)) (vg_name 7))
 (vs_seq (vs_if (vb_or (vb_test (b := false) (vt_opS (b1 := false) (b2 := false) ros_is (vt_look 7) vt_non)) (vb_not (vb_tru (b := false) (vt_call (va_cons (vt_ixv (i := 7) (b2 := false) vt_int) (va_cons (vt_ixv (i := 7) (b2 := false) vt_int) (va_cons (vt_look 3) (va_cons (vt_look 4) va_nil)))))))) (vs_raise1 (va_cons (vt_var 6) va_nil)) vs_next)
 (vs_append (i := 5) (vt_var 7)))))
 (vs_ret (vt_make (va_cons (vt_var 3) (va_cons (vt_var 4) (va_cons (vt_var 5) va_nil)))))))))))), hm, F.kp, b⟩

theorem ok__law_whole (T : Txt K mg A)  {f : Addr} {fd : FuncData} (F : Fun K "_law_whole" "_law_whole" s__law_whole f fd) (hm : mg "_law_whole" = some (.ref f)) (b : Binds K fd ["value"] []) :
    CalX P w K mg base CX0 1 "_law_whole" (spP K (m__law_whole A)) :=
  ⟨f, fd, ["value"], F.ok sc__law_whole (spP_len fun ds r h => (mOf_len h).1) (fun cdv A' outer s H vs Q E hr h => by
    refine ⟨_, (pss_one (ps_ret (pe_and (pe_callB (r := rIsi K) call_isi (by rfl) T.b_isinstance (by decide +kernel) (pa_cons (pv 0) (pa_cons (pe_bltn (v := .ty "int") (u := .type "int") (by rfl) T.b_int (by decide +kernel) rfl) pa_nil))) (pe_one (pe_not (pe_callB (r := rIsi K) call_isi (by rfl) T.b_isinstance (by decide +kernel) (pa_cons (pv 0) (pa_cons (pe_bltn (v := .ty "bool") (u := .type "bool") (by rfl) T.b_bool (by decide +kernel) rfl) pa_nil)))))))), run_def (E := E) rfl (fun W0 => ?_) h⟩
    exact (vs_ret (vt_andV (b1 := false) (b2 := false) (vt_isi (n := "int") (b1 := false) (vt_look 0)) (vt_notV (b1 := false) (vt_isi (n := "bool") (b1 := false) (vt_look 0)))))), hm, F.kp, b⟩

theorem ok__law_cell (T : Txt K mg A)  {f : Addr} {fd : FuncData} (F : Fun K "_law_cell" "_law_cell" s__law_cell f fd) (hm : mg "_law_cell" = some (.ref f)) (b : Binds K fd ["script", "k"] []) :
    CalX P w K mg base CX0 1 "_law_cell" (spP K (m__law_cell A)) :=
  ⟨f, fd, ["script", "k"], F.ok sc__law_cell (spP_len fun ds r h => (mOf_len h).1) (fun cdv A' outer s H vs Q E hr h => by
    refine ⟨_, (pss_cons (ps_if (pt_cmpR op_ltU (pv 1) (pe_callB (r := rLenU K) call_lenU (by rfl) T.b_len PySem.boot_len (pa_cons (pv 0) pa_nil)) (nomark _)) (pss_one (ps_ret (pe_ix (r := rIx K) ix_seq (pv 0) (pv 1) (fun _ _ => rfl)))) pss_nil)
 (pss_cons (ps_set (i := 2) sc__law_cell.nd rfl (Or.inl rfl) pe_int)
 (pss_cons (ps_for PassesOwn.never rfl (pi_seqU (pv 0)) (pg_name (i := 3) sc__law_cell.nd rfl (Or.inl rfl)) (pss_one (ps_set (i := 2) sc__law_cell.nd rfl (Or.inl rfl) (pe_op op_mod (pe_callTy call_intU (by rfl) T.b_int PyProof.Rows.boot_int (pa_cons (pe_op (r := rAddU K) op_addU (pe_op op_mulU (pv 2) pe_int) (pe_op op_mod (pe_callTy call_intU (by rfl) T.b_int PyProof.Rows.boot_int (pa_cons (pv 3) pa_nil)) pe_int)) pa_nil)) pe_int))))
 (pss_one (ps_ret (pe_op op_mod (pe_callTy call_intU (by rfl) T.b_int PyProof.Rows.boot_int (pa_cons (pe_op op_mulU (pe_op op_mulU (pe_op (r := rAddU K) op_addU (pv 2) pe_int) (pe_op (r := rAddU K) op_addU (pv 1) pe_int)) pe_int) pa_nil)) pe_int)))))), run_def (E := E) rfl (fun W0 => ?_) h⟩
    exact (vs_seq (vs_if (vb_test (b := false) (vt_opS (b1 := false) (b2 := false) ros_cmp (vt_look 1) (vt_cbS (b1 := false) rcs_len (va_cons (vt_look 0) va_nil)))) (vs_ret (vt_ixv (i := 0) (b2 := false) (vt_look 1))) vs_next)
 (vs_seq (vs_asg vt_int (vg_name 2))
 (vs_seq (vs_for (vi_seqU (vt_var 0)) (vg_name 3) (vs_asg (vt_opS (b1 := false) (b2 := false) (ros_I (C := PosR) (f := fun i j => i % j)) (vt_cbS (b1 := false) rcs_int (va_cons (vt_op ro_add (vt_op ro_mul (vt_look 2) vt_int) (vt_opS (b1 := false) (b2 := false) (ros_I (C := PosR) (f := fun i j => i % j)) (vt_cbS (b1 := false) rcs_int (va_cons (vt_look 3) va_nil)) vt_int)) va_nil)) vt_int) (vg_name 2)))
 (vs_ret (vt_opS (b1 := false) (b2 := false) (ros_I (C := PosR) (f := fun i j => i % j)) (vt_cbS (b1 := false) rcs_int (va_cons (vt_op ro_mul (vt_op ro_mul (vt_op ro_add (vt_look 2) vt_int) (vt_op ro_add (vt_look 1) vt_int)) vt_int) va_nil)) vt_int)))))), hm, F.kp, b⟩

theorem ok__law_digits (T : Txt K mg A)  {f : Addr} {fd : FuncData} (F : Fun K "_law_digits" "_law_digits" s__law_digits f fd) (hm : mg "_law_digits" = some (.ref f)) (b : Binds K fd ["cell", "sizes"] []) :
    CalX P w K mg base CX0 1 "_law_digits" (spP K (m__law_digits A)) :=
  ⟨f, fd, ["cell", "sizes"], F.ok sc__law_digits (spP_len fun ds r h => (mOf_len h).1) (fun cdv A' outer s H vs Q E hr h => by
    refine ⟨_, (pss_cons (ps_set (i := 2) sc__law_digits.nd rfl (Or.inl rfl) (pe_lst pa_nil))
 (pss_cons (ps_set (i := 3) sc__law_digits.nd rfl (Or.inl rfl) (pe_callTy call_intU (by rfl) T.b_int PyProof.Rows.boot_int (pa_cons (pv 0) pa_nil)))
 (pss_cons (ps_if (pt_cmpR op_geU (pv 3) (pe_op op_pow pe_int pe_int) (nomark _)) (pss_cons (ps_set (i := 3) sc__law_digits.nd rfl (Or.inl rfl) (pe_op op_mod (pe_callTy call_intU (by rfl) T.b_int PyProof.Rows.boot_int (pa_cons (pe_op op_sub (pv 3) (pe_op op_pow pe_int pe_int)) pa_nil)) (pe_op op_pow pe_int pe_int)))
 (pss_cons (ps_for PassesOwn.never rfl (pi_seqU (pv 1)) (pg_name (i := 4) sc__law_digits.nd rfl (Or.inl rfl)) (pss_cons (ps_expr (pe_bm PySem.F.plainAttrs_list PySem.F.slot_list_append PySem.F.type_list_append mt_append (pv 2) (pa_cons (pe_op op_mod (pe_callTy call_intU (by rfl) T.b_int PyProof.Rows.boot_int (pa_cons (pv 3) pa_nil)) (pv 4)) pa_nil)))
 (pss_one (ps_set (i := 3) sc__law_digits.nd rfl (Or.inl rfl) (pe_op op_fdivW (pe_callTy call_intU (by rfl) T.b_int PyProof.Rows.boot_int (pa_cons (pv 3) pa_nil)) (pv 4))))))
 (pss_one (ps_ret (pv 2))))) pss_nil)
 (pss_cons (ps_set (i := 5) sc__law_digits.nd rfl (Or.inl rfl) (pe_op op_mod (pe_callTy call_intU (by rfl) T.b_int PyProof.Rows.boot_int (pa_cons (pv 3) pa_nil)) pe_int))
 (pss_cons (ps_for PassesOwn.never rfl (pi_range1 (by rfl) T.b_range (pa_cons (pe_callB (r := rLenU K) call_lenU (by rfl) T.b_len PySem.boot_len (pa_cons (pv 1) pa_nil)) pa_nil)) (pg_name (i := 6) sc__law_digits.nd rfl (Or.inl rfl)) (pss_cons (ps_set (i := 5) sc__law_digits.nd rfl (Or.inl rfl) (pe_op op_mod (pe_callTy call_intU (by rfl) T.b_int PyProof.Rows.boot_int (pa_cons (pe_op (r := rAddU K) op_addU (pe_op (r := rAddU K) op_addU (pe_op op_mulU (pv 5) pe_int) (pe_op op_mulU pe_int (pv 6))) pe_int) pa_nil)) pe_int))
 (pss_cons (ps_set (i := 7) sc__law_digits.nd rfl (Or.inl rfl) (pe_op op_mod (pe_callTy call_intU (by rfl) T.b_int PyProof.Rows.boot_int (pa_cons (pe_op op_mulU (pv 5) (pe_op (r := rAddU K) op_addU (pe_op op_fdivW (pv 5) pe_int) pe_int)) pa_nil)) pe_int))
 (pss_one (ps_expr (pe_bm PySem.F.plainAttrs_list PySem.F.slot_list_append PySem.F.type_list_append mt_append (pv 2) (pa_cons (pe_op op_mod (pe_callTy call_intU (by rfl) T.b_int PyProof.Rows.boot_int (pa_cons (pe_op op_fdivW (pv 7) pe_int) pa_nil)) (pe_ix (r := rIx K) ix_seq (pv 1) (pv 6) (fun _ _ => rfl))) pa_nil)))))))
 (pss_one (ps_ret (pv 2)))))))), run_def (E := E) rfl (fun W0 => ?_) h⟩
    exact (vs_seq (vs_asgN (i := 2) (vn_lst va_nil))
 (vs_seq (vs_asg (vt_cbS (b1 := false) rcs_int (va_cons (vt_look 0) va_nil)) (vg_name 3))
 (vs_seq (vs_if (vb_test (b := false) (vt_opS (b1 := false) (b2 := false) ros_cmp (vt_look 3) (vt_opS (b1 := false) (b2 := false) (ros_I (C := CPow) (f := fun i j => i ^ j.toNat)) vt_int vt_int))) (vs_seq (vs_asg (vt_opS (b1 := false) (b2 := false) (ros_I (C := PosR) (f := fun i j => i % j)) (vt_cbS (b1 := false) rcs_int (va_cons (vt_opS (b1 := false) (b2 := false) ros_sub (vt_look 3) (vt_opS (b1 := false) (b2 := false) (ros_I (C := CPow) (f := fun i j => i ^ j.toNat)) vt_int vt_int)) va_nil)) (vt_opS (b1 := false) (b2 := false) (ros_I (C := CPow) (f := fun i j => i ^ j.toNat)) vt_int vt_int)) (vg_name 3))
 (vs_seq (vs_for (vi_seqU (vt_var 1)) (vg_name 4) (vs_seq (vs_append (i := 2) (vt_opS (b1 := false) (b2 := false) (ros_I (C := PosR) (f := fun i j => i % j)) (vt_cbS (b1 := false) rcs_int (va_cons (vt_look 3) va_nil)) (vt_look 4)))
 (vs_asg (vt_opS (b1 := false) (b2 := false) (ros_I (C := CDivW) (f := fun i j => i / j)) (vt_cbS (b1 := false) rcs_int (va_cons (vt_look 3) va_nil)) (vt_look 4)) (vg_name 3))))
 (vs_ret (vt_var 2)))) vs_next)
 (vs_seq (vs_asg (vt_opS (b1 := false) (b2 := false) (ros_I (C := PosR) (f := fun i j => i % j)) (vt_cbS (b1 := false) rcs_int (va_cons (vt_look 3) va_nil)) vt_int) (vg_name 5))
 (vs_seq (vs_for (vi_rg1 (b := false) (va_cons (vt_cbS (b1 := false) rcs_len (va_cons (vt_look 1) va_nil)) va_nil)) (vg_name 6) (vs_seq (vs_asg (vt_opS (b1 := false) (b2 := false) (ros_I (C := PosR) (f := fun i j => i % j)) (vt_cbS (b1 := false) rcs_int (va_cons (vt_op ro_add (vt_op ro_add (vt_op ro_mul (vt_look 5) vt_int) (vt_op ro_mul vt_int (vt_look 6))) vt_int) va_nil)) vt_int) (vg_name 5))
 (vs_seq (vs_asg (vt_opS (b1 := false) (b2 := false) (ros_I (C := PosR) (f := fun i j => i % j)) (vt_cbS (b1 := false) rcs_int (va_cons (vt_op ro_mul (vt_look 5) (vt_op ro_add (vt_opS (b1 := false) (b2 := false) (ros_I (C := CDivW) (f := fun i j => i / j)) (vt_look 5) vt_int) vt_int)) va_nil)) vt_int) (vg_name 7))
 (vs_append (i := 2) (vt_opS (b1 := false) (b2 := false) (ros_I (C := PosR) (f := fun i j => i % j)) (vt_cbS (b1 := false) rcs_int (va_cons (vt_opS (b1 := false) (b2 := false) (ros_I (C := CDivW) (f := fun i j => i / j)) (vt_look 7) vt_int) va_nil)) (vt_ixv (i := 1) (b2 := false) (vt_look 6)))))))
 (vs_ret (vt_var 2)))))))), hm, F.kp, b⟩

theorem ok__law_alphabet (T : Txt K mg A) (c__law_digits : CalX P w K mg base CX0 1 "_law_digits" (spP K (m__law_digits A))) {f : Addr} {fd : FuncData} (F : Fun K "_law_alphabet" "_law_alphabet" s__law_alphabet f fd) (hm : mg "_law_alphabet" = some (.ref f)) (b : Binds K fd ["cell"] []) :
    CalX P w K mg base CX0 2 "_law_alphabet" (spP K (m__law_alphabet A)) :=
  ⟨f, fd, ["cell"], F.ok sc__law_alphabet (spP_len fun ds r h => (mOf_len h).1) (fun cdv A' outer s H vs Q E hr h => by
    refine ⟨_, (pss_cons (ps_set (i := 1) sc__law_alphabet.nd rfl (Or.inr rfl) (pe_cx c__law_digits hr (by decide) pass0 (by rfl) (pa_cons (pv 0) (pa_cons (pe_op (r := rAddU K) op_addU (pe_lst (pa_cons pe_int pa_nil)) (pe_op op_mulU (pe_lst (pa_cons pe_int pa_nil)) pe_int)) pa_nil))))
 (pss_cons (ps_set (i := 2) sc__law_alphabet.nd rfl (Or.inr rfl) pe_str)
 (pss_cons (ps_setLc (i := 3) (own := [("k", 4)]) rfl sc__law_alphabet.nd rfl rfl (sw_true rfl rfl rfl (by decide +kernel)) (pi_range1 (by rfl) T.b_range (pa_cons pe_int pa_nil)) (blkOk_by (N := N__law_alphabet) (sc := defScope s__law_alphabet) (by decide +kernel)) (fun _ _ _ _ _ => (pg_name (i := 4) sc__law_alphabet.nd rfl (Or.inl rfl))) (fun _ _ _ _ _ => (pts_one (pt_cmpR (r := rEqU K) (op_eqU hr.units) (pe_ix (r := rIx K) ix_seq (pv 1) (pe_op (r := rAddU K) op_addU (pv 4) pe_int) (fun _ _ => rfl)) pe_int (nomark _)))) (fun _ _ _ _ _ => (pe_ix (r := rIx K) ix_seq (pv 2) (pv 4) (fun _ _ => rfl))))
 (pss_cons (ps_if (pt_cmpR (r := rEqU K) (op_eqU hr.units) (pe_ix (r := rIx K) ix_seq (pv 1) pe_int (fun _ _ => rfl)) pe_int (nomark _)) (pss_one (ps_ret (pv 2))) pss_nil)
 (pss_cons (ps_if (pt_cmpR (r := rEqU K) (op_eqU hr.units) (pe_callB (r := rLenU K) call_lenU (by rfl) T.b_len PySem.boot_len (pa_cons (pv 3) pa_nil)) pe_int (nomark _)) (pss_one (ps_set (i := 3) sc__law_alphabet.nd rfl (Or.inl rfl) (pe_lst (pa_cons pe_str pa_nil)))) pss_nil)
 (pss_cons (ps_if (pt_cmpR (r := rEqU K) (op_eqU hr.units) (pe_ix (r := rIx K) ix_seq (pv 1) pe_int (fun _ _ => rfl)) pe_int (nomark _)) (pss_one (ps_set (i := 3) sc__law_alphabet.nd rfl (Or.inl rfl) (pe_slice (r := rCutU K) sl_U (pv 3) po_none (po_some pe_int)))) pss_nil)
 (pss_cons (ps_if (PW.pt (pw_or (pt_cmpR (r := rEqU K) (op_eqU hr.units) (pe_ix (r := rIx K) ix_seq (pv 1) pe_int (fun _ _ => rfl)) pe_int (nomark _)) (pw_or1 (pt_cmpR (r := rEqU K) (op_eqU hr.units) (pe_ix (r := rIx K) ix_seq (pv 1) pe_int (fun _ _ => rfl)) pe_int (nomark _))))) (pss_one (ps_set (i := 3) sc__law_alphabet.nd rfl (Or.inl rfl) (pe_slice (r := rCutU K) sl_U (pv 3) po_none (po_some pe_int)))) pss_nil)
 (pss_one (ps_ret (pe_joinU (K := K) rfl pe_str (pv 3))))))))))), run_def (E := E) rfl (fun W0 => ?_) h⟩
    exact (vs_seq (vs_asg (vt_call (va_cons (vt_var 0) (va_cons (vt_vn (vn_cat (vt_vn (vn_lst (va_cons vt_int va_nil))) (vt_op ro_mul (vt_vn (vn_lst (va_cons vt_int va_nil))) vt_int))) va_nil))) (vg_name 1))
 (vs_seq (vs_asg vt_str (vg_name 2))
 (vs_seq (vs_asg (vt_vn (vn_lc (vi_rg1 (b := false) (va_cons vt_int va_nil)) (vg_name 4) (by decide) (vb_test (b := false) (vt_opS (b1 := false) (b2 := false) ros_eq (vt_ixv (i := 1) (b2 := false) (vt_op ro_add (vt_look 4) vt_int)) vt_int)) (vt_ixv (i := 2) (b2 := false) (vt_look 4)))) (vg_name 3))
 (vs_seq (vs_if (vb_test (b := false) (vt_opS (b1 := false) (b2 := false) ros_eq (vt_ixv (i := 1) (b2 := false) vt_int) vt_int)) (vs_ret (vt_var 2)) vs_next)
 (vs_seq (vs_if (vb_test (b := false) (vt_opS (b1 := false) (b2 := false) ros_eq (vt_cbS (b1 := false) rcs_len (va_cons (vt_look 3) va_nil)) vt_int)) (vs_asg (vt_vn (vn_lst (va_cons vt_str va_nil))) (vg_name 3)) vs_next)
 (vs_seq (vs_if (vb_test (b := false) (vt_opS (b1 := false) (b2 := false) ros_eq (vt_ixv (i := 1) (b2 := false) vt_int) vt_int)) (vs_asg (vt_cut (vt_var 3) vo_none (vo_some (b := false) vt_int)) (vg_name 3)) vs_next)
 (vs_seq (vs_if (vb_or (vb_test (b := false) (vt_opS (b1 := false) (b2 := false) ros_eq (vt_ixv (i := 1) (b2 := false) vt_int) vt_int)) (vb_test (b := false) (vt_opS (b1 := false) (b2 := false) ros_eq (vt_ixv (i := 1) (b2 := false) vt_int) vt_int))) (vs_asg (vt_cut (vt_var 3) vo_none (vo_some (b := false) vt_int)) (vg_name 3)) vs_next)
 (vs_ret (vt_join (b1 := false) (b2 := false) vt_str (vt_look 3))))))))))), hm, F.kp, b⟩

theorem ok__law_is_alphabet (T : Txt K mg A)  {f : Addr} {fd : FuncData} (F : Fun K "_law_is_alphabet" "_law_is_alphabet" s__law_is_alphabet f fd) (hm : mg "_law_is_alphabet" = some (.ref f)) (b : Binds K fd ["string"] []) :
    CalX P w K mg base CX0 1 "_law_is_alphabet" (spP K (m__law_is_alphabet A)) :=
  ⟨f, fd, ["string"], F.ok sc__law_is_alphabet (spP_len fun ds r h => (mOf_len h).1) (fun cdv A' outer s H vs Q E hr h => by
    refine ⟨_, (pss_cons (ps_if (PW.pt (pw_or (pt_cmpR op_ltU (pe_callB (r := rLenU K) call_lenU (by rfl) T.b_len PySem.boot_len (pa_cons (pv 0) pa_nil)) pe_int (nomark _)) (pw_or1 (pt_cmpR op_gtU (pe_callB (r := rLenU K) call_lenU (by rfl) T.b_len PySem.boot_len (pa_cons (pv 0) pa_nil)) pe_int (nomark _))))) (pss_one (ps_ret pe_bl)) pss_nil)
 (pss_cons (ps_for PassesOwn.never rfl (pi_range1 (by rfl) T.b_range (pa_cons (pe_callB (r := rLenU K) call_lenU (by rfl) T.b_len PySem.boot_len (pa_cons (pv 0) pa_nil)) pa_nil)) (pg_name (i := 1) sc__law_is_alphabet.nd rfl (Or.inl rfl)) (pss_one (ps_if (PW.pt (pw_or (pt_cmpR (r := rNotInU K) op_notInU (pe_ix (r := rIx K) ix_seq (pv 0) (pv 1) (fun _ _ => rfl)) pe_str (by with_unfolding_all rfl)) (pw_or1 (PW.pt (pw_and (pt_cmpR op_gtU (pv 1) pe_int (nomark _)) (pw_and1 (pt_cmpR op_geU (pe_ix (r := rIx K) ix_seq (pv 0) (pe_op op_sub (pv 1) pe_int) (fun _ _ => rfl)) (pe_ix (r := rIx K) ix_seq (pv 0) (pv 1) (fun _ _ => rfl)) (nomark _)))))))) (pss_one (ps_ret pe_bl)) pss_nil)))
 (pss_one (ps_ret pe_bl)))), run_def (E := E) rfl (fun W0 => ?_) h⟩
    exact (vs_seq (vs_if (vb_or (vb_test (b := false) (vt_opS (b1 := false) (b2 := false) ros_cmp (vt_cbS (b1 := false) rcs_len (va_cons (vt_look 0) va_nil)) vt_int)) (vb_test (b := false) (vt_opS (b1 := false) (b2 := false) ros_cmp (vt_cbS (b1 := false) rcs_len (va_cons (vt_look 0) va_nil)) vt_int))) (vs_ret vt_bl) vs_next)
 (vs_seq (vs_for (vi_rg1 (b := false) (va_cons (vt_cbS (b1 := false) rcs_len (va_cons (vt_look 0) va_nil)) va_nil)) (vg_name 1) (vs_if (vb_or (vb_test (b := false) (vt_opS (b1 := false) (b2 := false) ros_notIn (vt_ixv (i := 0) (b2 := false) (vt_look 1)) vt_str)) (vb_and (vb_test (b := false) (vt_opS (b1 := false) (b2 := false) ros_cmp (vt_look 1) vt_int)) (vb_test (b := false) (vt_opS (b1 := false) (b2 := false) ros_cmp (vt_ixv (i := 0) (b2 := false) (vt_opS (b1 := false) (b2 := false) ros_sub (vt_look 1) vt_int)) (vt_ixv (i := 0) (b2 := false) (vt_look 1)))))) (vs_ret vt_bl) vs_next))
 (vs_ret vt_bl)))), hm, F.kp, b⟩

theorem ok__law_variable (T : Txt K mg A)  {f : Addr} {fd : FuncData} (F : Fun K "_law_variable" "_law_variable" s__law_variable f fd) (hm : mg "_law_variable" = some (.ref f)) (b : Binds K fd ["digit", "variables"] []) :
    CalX P w K mg base CX0 1 "_law_variable" (spP K (m__law_variable A)) :=
  ⟨f, fd, ["digit", "variables"], F.ok sc__law_variable (spP_len fun ds r h => (mOf_len h).1) (fun cdv A' outer s H vs Q E hr h => by
    refine ⟨_, (pss_cons (ps_if (pt_cmpR (r := rEqU K) (op_eqU hr.units) (pe_op op_mod (pe_callTy call_intU (by rfl) T.b_int PyProof.Rows.boot_int (pa_cons (pv 0) pa_nil)) pe_int) pe_int (nomark _)) (pss_one (ps_ret (pe_op op_mod (pe_callTy call_intU (by rfl) T.b_int PyProof.Rows.boot_int (pa_cons (pe_op op_fdivW (pv 0) pe_int) pa_nil)) (pv 1)))) pss_nil)
 (pss_one (ps_ret (pe_op op_sub (pe_op op_sub (pv 1) pe_int) (pe_op op_mod (pe_callTy call_intU (by rfl) T.b_int PyProof.Rows.boot_int (pa_cons (pe_op op_fdivW (pv 0) pe_int) pa_nil)) (pe_callB (call_minU rfl) (by rfl) T.b_min (by decide +kernel) (pa_cons (pv 1) (pa_cons pe_int pa_nil)))))))), run_def (E := E) rfl (fun W0 => ?_) h⟩
    exact (vs_seq (vs_if (vb_test (b := false) (vt_opS (b1 := false) (b2 := false) ros_eq (vt_opS (b1 := false) (b2 := false) (ros_I (C := PosR) (f := fun i j => i % j)) (vt_cbS (b1 := false) rcs_int (va_cons (vt_look 0) va_nil)) vt_int) vt_int)) (vs_ret (vt_opS (b1 := false) (b2 := false) (ros_I (C := PosR) (f := fun i j => i % j)) (vt_cbS (b1 := false) rcs_int (va_cons (vt_opS (b1 := false) (b2 := false) (ros_I (C := CDivW) (f := fun i j => i / j)) (vt_look 0) vt_int) va_nil)) (vt_look 1))) vs_next)
 (vs_ret (vt_opS (b1 := false) (b2 := false) ros_sub (vt_opS (b1 := false) (b2 := false) ros_sub (vt_look 1) vt_int) (vt_opS (b1 := false) (b2 := false) (ros_I (C := PosR) (f := fun i j => i % j)) (vt_cbS (b1 := false) rcs_int (va_cons (vt_opS (b1 := false) (b2 := false) (ros_I (C := CDivW) (f := fun i j => i / j)) (vt_look 0) vt_int) va_nil)) (vt_cbS (b1 := false) rcs_min (va_cons (vt_look 1) (va_cons vt_int va_nil)))))))), hm, F.kp, b⟩

theorem ok__law_symbol (T : Txt K mg A) (c__law_variable : CalX P w K mg base CX0 1 "_law_variable" (spP K (m__law_variable A))) {f : Addr} {fd : FuncData} (F : Fun K "_law_symbol" "_law_symbol" s__law_symbol f fd) (hm : mg "_law_symbol" = some (.ref f)) (b : Binds K fd ["digit", "alphabet", "variables"] []) :
    CalX P w K mg base CX0 2 "_law_symbol" (spP K (m__law_symbol A)) :=
  ⟨f, fd, ["digit", "alphabet", "variables"], F.ok sc__law_symbol (spP_len fun ds r h => (mOf_len h).1) (fun cdv A' outer s H vs Q E hr h => by
    refine ⟨_, (pss_cons (ps_if (pt_cmpR (r := rEqU K) (op_eqU hr.units) (pe_op op_mod (pe_callTy call_intU (by rfl) T.b_int PyProof.Rows.boot_int (pa_cons (pv 0) pa_nil)) pe_int) pe_int (nomark _)) (pss_one (ps_ret (pe_ix (r := rIx K) ix_seq (pv 1) (pe_op op_mod (pe_callTy call_intU (by rfl) T.b_int PyProof.Rows.boot_int (pa_cons (pe_op op_fdivW (pv 0) pe_int) pa_nil)) (pe_callB (r := rLenU K) call_lenU (by rfl) T.b_len PySem.boot_len (pa_cons (pv 1) pa_nil))) (fun _ _ => rfl)))) pss_nil)
 (pss_one (ps_ret (pe_cx c__law_variable hr (by decide) pass0 (by rfl) (pa_cons (pe_op op_fdivW (pv 0) pe_int) (pa_cons (pv 2) pa_nil)))))), run_def (E := E) rfl (fun W0 => ?_) h⟩
    exact (vs_seq (vs_if (vb_test (b := false) (vt_opS (b1 := false) (b2 := false) ros_eq (vt_opS (b1 := false) (b2 := false) (ros_I (C := PosR) (f := fun i j => i % j)) (vt_cbS (b1 := false) rcs_int (va_cons (vt_look 0) va_nil)) vt_int) vt_int)) (vs_ret (vt_ixv (i := 1) (b2 := false) (vt_opS (b1 := false) (b2 := false) (ros_I (C := PosR) (f := fun i j => i % j)) (vt_cbS (b1 := false) rcs_int (va_cons (vt_opS (b1 := false) (b2 := false) (ros_I (C := CDivW) (f := fun i j => i / j)) (vt_look 0) vt_int) va_nil)) (vt_cbS (b1 := false) rcs_len (va_cons (vt_look 1) va_nil))))) vs_next)
 (vs_ret (vt_call (va_cons (vt_opS (b1 := false) (b2 := false) (ros_I (C := CDivW) (f := fun i j => i / j)) (vt_look 0) vt_int) (va_cons (vt_var 2) va_nil)))))), hm, F.kp, b⟩

theorem ok__law_rule (T : Txt K mg A) (c__law_digits : CalX P w K mg base CX0 1 "_law_digits" (spP K (m__law_digits A))) (c__law_symbol : CalX P w K mg base CX0 2 "_law_symbol" (spP K (m__law_symbol A))) (c__law_variable : CalX P w K mg base CX0 1 "_law_variable" (spP K (m__law_variable A))) {f : Addr} {fd : FuncData} (F : Fun K "_law_rule" "_law_rule" s__law_rule f fd) (hm : mg "_law_rule" = some (.ref f)) (b : Binds K fd ["cell", "alphabet", "variables"] []) :
    CalX P w K mg base CX0 3 "_law_rule" (spP K (m__law_rule A)) :=
  ⟨f, fd, ["cell", "alphabet", "variables"], F.ok sc__law_rule (spP_len fun ds r h => (mOf_len h).1) (fun cdv A' outer s H vs Q E hr h => by
    refine ⟨_, (pss_cons (ps_set (i := 3) sc__law_rule.nd rfl (Or.inl rfl) (pe_cx c__law_digits hr (by decide) pass0 (by rfl) (pa_cons (pv 0) (pa_cons (pe_op (r := rAddU K) op_addU (pe_lst (pa_cons pe_int (pa_cons pe_int pa_nil))) (pe_op op_mulU (pe_lst (pa_cons (pe_op op_mulU pe_int (pe_op op_pow pe_int pe_int)) pa_nil)) pe_int)) pa_nil))))
 (pss_cons (ps_set (i := 4) sc__law_rule.nd rfl (Or.inl rfl) (pe_op (r := rAddU K) op_addU pe_int (pe_op op_mod (pe_callTy call_intU (by rfl) T.b_int PyProof.Rows.boot_int (pa_cons (pe_ix (r := rIx K) ix_seq (pv 3) pe_int (fun _ _ => rfl)) pa_nil)) pe_int)))
 (pss_cons (ps_setLc (i := 5) (own := [("digit", 7)]) rfl sc__law_rule.nd rfl rfl (sw_true rfl rfl rfl (by decide +kernel)) (pi_seqU (pe_slice (r := rCutU K) sl_U (pv 3) (po_some pe_int) (po_some (pe_op (r := rAddU K) op_addU pe_int (pv 4))))) (blkOk_by (N := N__law_rule) (sc := defScope s__law_rule) (by decide +kernel)) (fun _ _ _ _ _ => (pg_name (i := 7) sc__law_rule.nd rfl (Or.inl rfl))) (fun _ _ _ _ _ => pts_nil) (fun _ _ _ _ _ => (pe_cx c__law_symbol hr (by decide) pass0 (by rfl) (pa_cons (pv 7) (pa_cons (pv 1) (pa_cons (pv 2) pa_nil))))))
 (pss_cons (ps_asg (pe_cx c__law_variable hr (by decide) pass0 (by rfl) (pa_cons (pe_op op_fdivW (pe_ix (r := rIx K) ix_seq (pv 3) pe_int (fun _ _ => rfl)) pe_int) (pa_cons (pv 2) pa_nil))) (pg_sub (pv 5) (pe_op op_mod (pe_callTy call_intU (by rfl) T.b_int PyProof.Rows.boot_int (pa_cons (pe_op op_fdivW (pe_ix (r := rIx K) ix_seq (pv 3) pe_int (fun _ _ => rfl)) pe_int) pa_nil)) (pv 4)) set_list))
 (pss_cons (ps_setLc (i := 6) (own := [("digit", 7)]) rfl sc__law_rule.nd rfl rfl (sw_true rfl rfl rfl (by decide +kernel)) (pi_seqU (pe_slice (r := rCutU K) sl_U (pv 3) (po_some pe_int) (po_some (pe_op (r := rAddU K) op_addU pe_int (pe_ix (r := rIx K) ix_seq (pv 3) pe_int (fun _ _ => rfl)))))) (blkOk_by (N := N__law_rule) (sc := defScope s__law_rule) (by decide +kernel)) (fun _ _ _ _ _ => (pg_name (i := 7) sc__law_rule.nd rfl (Or.inl rfl))) (fun _ _ _ _ _ => pts_nil) (fun _ _ _ _ _ => (pe_cx c__law_symbol hr (by decide) pass0 (by rfl) (pa_cons (pv 7) (pa_cons (pv 1) (pa_cons (pv 2) pa_nil))))))
 (pss_one (ps_ret (pe_tup (pa_cons (pe_callTy (r := rTupleU K) call_tupleU (by rfl) T.b_tuple PyProof.Rows.boot_tuple (pa_cons (pv 5) pa_nil)) (pa_cons (pe_callTy (r := rTupleU K) call_tupleU (by rfl) T.b_tuple PyProof.Rows.boot_tuple (pa_cons (pv 6) pa_nil)) pa_nil)))))))))), run_def (E := E) rfl (fun W0 => ?_) h⟩
    exact (vs_seq (vs_asg (vt_call (va_cons (vt_var 0) (va_cons (vt_vn (vn_cat (vt_vn (vn_lst (va_cons vt_int (va_cons vt_int va_nil)))) (vt_op ro_mul (vt_vn (vn_lst (va_cons (vt_op ro_mul vt_int (vt_opS (b1 := false) (b2 := false) (ros_I (C := CPow) (f := fun i j => i ^ j.toNat)) vt_int vt_int)) va_nil))) vt_int))) va_nil))) (vg_name 3))
 (vs_seq (vs_asg (vt_op ro_add vt_int (vt_opS (b1 := false) (b2 := false) (ros_I (C := PosR) (f := fun i j => i % j)) (vt_cbS (b1 := false) rcs_int (va_cons (vt_ixv (i := 3) (b2 := false) vt_int) va_nil)) vt_int)) (vg_name 4))
 (vs_seq (vs_asgN (i := 5) (vn_lc (vi_seqU (vt_cut (vt_var 3) (vo_some (b := false) vt_int) (vo_some (b := false) (vt_op ro_add vt_int (vt_look 4))))) (vg_name 7) (by decide) vb_yes (vt_call (va_cons (vt_var 7) (va_cons (vt_var 1) (va_cons (vt_var 2) va_nil))))))
 (vs_seq (vs_setIx (i := 5) (b := false) (vt_opS (b1 := false) (b2 := false) (ros_I (C := PosR) (f := fun i j => i % j)) (vt_cbS (b1 := false) rcs_int (va_cons (vt_opS (b1 := false) (b2 := false) (ros_I (C := CDivW) (f := fun i j => i / j)) (vt_ixv (i := 3) (b2 := false) vt_int) vt_int) va_nil)) (vt_look 4)) (vt_call (va_cons (vt_opS (b1 := false) (b2 := false) (ros_I (C := CDivW) (f := fun i j => i / j)) (vt_ixv (i := 3) (b2 := false) vt_int) vt_int) (va_cons (vt_var 2) va_nil))))
 (vs_seq (vs_asg (vt_vn (vn_lc (vi_seqU (vt_cut (vt_var 3) (vo_some (b := false) vt_int) (vo_some (b := false) (vt_op ro_add vt_int (vt_ixv (i := 3) (b2 := false) vt_int))))) (vg_name 7) (by decide) vb_yes (vt_call (va_cons (vt_var 7) (va_cons (vt_var 1) (va_cons (vt_var 2) va_nil)))))) (vg_name 6))
 (vs_ret (vt_tup (va_cons (vt_cb rc_tuple (va_cons (vt_var 5) va_nil)) (va_cons (vt_cb rc_tuple (va_cons (vt_var 6) va_nil)) va_nil)))))))))), hm, F.kp, b⟩

theorem ok__law_side (T : Txt K mg A)  {f : Addr} {fd : FuncData} (F : Fun K "_law_side" "_law_side" s__law_side f fd) (hm : mg "_law_side" = some (.ref f)) (b : Binds K fd ["symbols"] []) :
    CalX P w K mg base CX0 1 "_law_side" (spP K (m__law_side A)) :=
  ⟨f, fd, ["symbols"], F.ok sc__law_side (spP_len fun ds r h => (mOf_len h).1) (fun cdv A' outer s H vs Q E hr h => by
    refine ⟨_, (pss_cons (ps_if (pt_cmpR (r := rEqU K) (op_eqU hr.units) (pe_callB (r := rLenU K) call_lenU (by rfl) T.b_len PySem.boot_len (pa_cons (pv 0) pa_nil)) pe_int (nomark _)) (pss_one (ps_ret pe_str)) pss_nil)
 (pss_one (ps_ret (pe_joinU (K := K) rfl pe_str (pe_lc (own := [("symbol", 1)]) rfl sc__law_side.nd (pi_seqU (pv 0)) (blkOk_by (N := N__law_side) (sc := defScope s__law_side) (by decide +kernel)) (fun _ _ _ _ _ => (pg_name (i := 1) sc__law_side.nd rfl (Or.inl rfl))) (fun _ _ _ _ _ => pts_nil) (fun _ _ _ _ _ => (pe_callTy (r := rStrU) call_strU (by rfl) T.b_str (by decide +kernel) (pa_cons (pv 1) pa_nil)))))))), run_def (E := E) rfl (fun W0 => ?_) h⟩
    exact (vs_seq (vs_if (vb_test (b := false) (vt_opS (b1 := false) (b2 := false) ros_eq (vt_cbS (b1 := false) rcs_len (va_cons (vt_look 0) va_nil)) vt_int)) (vs_ret vt_str) vs_next)
 (vs_ret (vt_join (b1 := false) (b2 := false) vt_str (vt_vn (vn_lc (vi_seqU (vt_var 0)) (vg_name 1) (by decide) vb_yes (vt_cbS (b1 := false) rcs_str (va_cons (vt_look 1) va_nil)))))))), hm, F.kp, b⟩

theorem ok__law_written (T : Txt K mg A) (c__law_side : CalX P w K mg base CX0 1 "_law_side" (spP K (m__law_side A))) {f : Addr} {fd : FuncData} (F : Fun K "_law_written" "_law_written" s__law_written f fd) (hm : mg "_law_written" = some (.ref f)) (b : Binds K fd ["alphabet", "variables", "rules"] []) :
    CalX P w K mg base CX0 2 "_law_written" (spP K (m__law_written A)) :=
  ⟨f, fd, ["alphabet", "variables", "rules"], F.ok sc__law_written (spP_len fun ds r h => (mOf_len h).1) (fun cdv A' outer s H vs Q E hr h => by
    refine ⟨_, (pss_cons (ps_set (i := 3) sc__law_written.nd rfl (Or.inl rfl) (pe_lst (pa_cons (pe_op (r := rAddU K) op_addU (pe_op (r := rAddU K) op_addU (pe_op (r := rAddU K) op_addU pe_str (pv 0)) pe_str) (pe_callTy (r := rStrU) call_strU (by rfl) T.b_str (by decide +kernel) (pa_cons (pv 1) pa_nil))) pa_nil)))
 (pss_cons (ps_for PassesOwn.never rfl (pi_seqU (pv 2)) (pg_name (i := 4) sc__law_written.nd rfl (Or.inl rfl)) (pss_one (ps_expr (pe_bm PySem.F.plainAttrs_list PySem.F.slot_list_append PySem.F.type_list_append mt_append (pv 3) (pa_cons (pe_op (r := rAddU K) op_addU (pe_op (r := rAddU K) op_addU (pe_cx c__law_side hr (by decide) pass0 (by rfl) (pa_cons (pe_ix (r := rIx K) ix_seq (pv 4) pe_int (fun _ _ => rfl)) pa_nil)) pe_str) (pe_cx c__law_side hr (by decide) pass0 (by rfl) (pa_cons (pe_ix (r := rIx K) ix_seq (pv 4) pe_int (fun _ _ => rfl)) pa_nil))) pa_nil)))))
 (pss_one (ps_ret (pe_joinU (K := K) rfl pe_str (pv 3)))))), run_def (E := E) rfl (fun W0 => ?_) h⟩
    exact (vs_seq (vs_asgN (i := 3) (vn_lst (va_cons (vt_op ro_add (vt_op ro_add (vt_op ro_add vt_str (vt_var 0)) vt_str) (vt_cbS (b1 := false) rcs_str (va_cons (vt_look 1) va_nil))) va_nil)))
 (vs_seq (vs_for (vi_seqU (vt_var 2)) (vg_name 4) (vs_append (i := 3) (vt_op ro_add (vt_op ro_add (vt_call (va_cons (vt_ixv (i := 4) (b2 := false) vt_int) va_nil)) vt_str) (vt_call (va_cons (vt_ixv (i := 4) (b2 := false) vt_int) va_nil)))))
 (vs_ret (vt_join (b1 := false) (b2 := false) vt_str (vt_look 3)))))), hm, F.kp, b⟩

theorem ok__law_number (T : Txt K mg A)  {f : Addr} {fd : FuncData} (F : Fun K "_law_number" "_law_number" s__law_number f fd) (hm : mg "_law_number" = some (.ref f)) (b : Binds K fd ["word"] []) :
    CalX P w K mg base CX0 1 "_law_number" (spP K (m__law_number A)) :=
  ⟨f, fd, ["word"], F.ok sc__law_number (spP_len fun ds r h => (mOf_len h).1) (fun cdv A' outer s H vs Q E hr h => by
    refine ⟨_, (pss_cons (ps_if (PW.pt (pw_or (pt_cmpR op_ltU (pe_callB (r := rLenU K) call_lenU (by rfl) T.b_len PySem.boot_len (pa_cons (pv 0) pa_nil)) pe_int (nomark _)) (pw_or1 (pt_cmpR op_gtU (pe_callB (r := rLenU K) call_lenU (by rfl) T.b_len PySem.boot_len (pa_cons (pv 0) pa_nil)) pe_int (nomark _))))) (pss_one (ps_ret pe_non)) pss_nil)
 (pss_cons (ps_for PassesOwn.never rfl (pi_range1 (by rfl) T.b_range (pa_cons (pe_callB (r := rLenU K) call_lenU (by rfl) T.b_len PySem.boot_len (pa_cons (pv 0) pa_nil)) pa_nil)) (pg_name (i := 1) sc__law_number.nd rfl (Or.inl rfl)) (pss_one (ps_if (pt_cmpR (r := rNotInU K) op_notInU (pe_ix (r := rIx K) ix_seq (pv 0) (pv 1) (fun _ _ => rfl)) pe_str (by with_unfolding_all rfl)) (pss_one (ps_ret pe_non)) pss_nil)))
 (pss_one (ps_ret (pe_callTy call_intT (by rfl) T.b_int PyProof.Rows.boot_int (pa_cons (pv 0) pa_nil)))))), run_def (E := E) rfl (fun W0 => ?_) h⟩
    exact (vs_seq (vs_if (vb_or (vb_test (b := false) (vt_opS (b1 := false) (b2 := false) ros_cmp (vt_cbS (b1 := false) rcs_len (va_cons (vt_look 0) va_nil)) vt_int)) (vb_test (b := false) (vt_opS (b1 := false) (b2 := false) ros_cmp (vt_cbS (b1 := false) rcs_len (va_cons (vt_look 0) va_nil)) vt_int))) (vs_ret vt_non) vs_next)
 (vs_seq (vs_for (vi_rg1 (b := false) (va_cons (vt_cbS (b1 := false) rcs_len (va_cons (vt_look 0) va_nil)) va_nil)) (vg_name 1) (vs_if (vb_test (b := false) (vt_opS (b1 := false) (b2 := false) ros_notIn (vt_ixv (i := 0) (b2 := false) (vt_look 1)) vt_str)) (vs_ret vt_non) vs_next))
 (vs_ret (vt_cbS (b1 := false) rcs_intT (va_cons (vt_look 0) va_nil)))))), hm, F.kp, b⟩

theorem ok__law_read_symbol (T : Txt K mg A) (c__law_number : CalX P w K mg base CX0 1 "_law_number" (spP K (m__law_number A))) {f : Addr} {fd : FuncData} (F : Fun K "_law_read_symbol" "_law_read_symbol" s__law_read_symbol f fd) (hm : mg "_law_read_symbol" = some (.ref f)) (b : Binds K fd ["word", "alphabet", "variables"] []) :
    CalX P w K mg base CX0 2 "_law_read_symbol" (spP K (m__law_read_symbol A)) :=
  ⟨f, fd, ["word", "alphabet", "variables"], F.ok sc__law_read_symbol (spP_len fun ds r h => (mOf_len h).1) (fun cdv A' outer s H vs Q E hr h => by
    refine ⟨_, (pss_cons (ps_if (PW.pt (pw_and (pt_cmpR (r := rEqU K) (op_eqU hr.units) (pe_callB (r := rLenU K) call_lenU (by rfl) T.b_len PySem.boot_len (pa_cons (pv 0) pa_nil)) pe_int (nomark _)) (pw_and1 (pt_cmpR (r := rInU K) op_inU (pv 0) (pv 1) (by with_unfolding_all rfl))))) (pss_one (ps_ret (pv 0))) pss_nil)
 (pss_cons (ps_set (i := 3) sc__law_read_symbol.nd rfl (Or.inl rfl) (pe_cx c__law_number hr (by decide) pass0 (by rfl) (pa_cons (pv 0) pa_nil)))
 (pss_cons (ps_if (PW.pt (pw_or (pt_cmpR op_isU (pv 3) pe_non (nomark _)) (pw_or1 (pt_cmpR op_geU (pv 3) (pv 2) (nomark _))))) (pss_one (ps_ret pe_non)) pss_nil)
 (pss_one (ps_ret (pv 3)))))), run_def (E := E) rfl (fun W0 => ?_) h⟩
    exact (vs_seq (vs_if (vb_and (vb_test (b := false) (vt_opS (b1 := false) (b2 := false) ros_eq (vt_cbS (b1 := false) rcs_len (va_cons (vt_look 0) va_nil)) vt_int)) (vb_test (b := false) (vt_opS (b1 := false) (b2 := false) ros_in (vt_look 0) (vt_look 1)))) (vs_ret (vt_var 0)) vs_next)
 (vs_seq (vs_asg (vt_call (va_cons (vt_var 0) va_nil)) (vg_name 3))
 (vs_seq (vs_if (vb_or (vb_test (b := false) (vt_opS (b1 := false) (b2 := false) ros_is (vt_look 3) vt_non)) (vb_test (b := false) (vt_opS (b1 := false) (b2 := false) ros_cmp (vt_look 3) (vt_look 2)))) (vs_ret vt_non) vs_next)
 (vs_ret (vt_var 3)))))), hm, F.kp, b⟩

theorem ok__law_read_rule (T : Txt K mg A) (c__law_read_symbol : CalX P w K mg base CX0 2 "_law_read_symbol" (spP K (m__law_read_symbol A))) (c__law_side : CalX P w K mg base CX0 1 "_law_side" (spP K (m__law_side A))) {f : Addr} {fd : FuncData} (F : Fun K "_law_read_rule" "_law_read_rule" s__law_read_rule f fd) (hm : mg "_law_read_rule" = some (.ref f)) (b : Binds K fd ["line", "alphabet", "variables"] []) :
    CalX P w K mg base CX0 3 "_law_read_rule" (spP K (m__law_read_rule A)) :=
  ⟨f, fd, ["line", "alphabet", "variables"], F.ok sc__law_read_rule (spP_len fun ds r h => (mOf_len h).1) (fun cdv A' outer s H vs Q E hr h => by
    refine ⟨_, (pss_cons (ps_set (i := 3) sc__law_read_rule.nd rfl (Or.inl rfl) (pe_lst pa_nil))
 (pss_cons (ps_for PassesOwn.never rfl (pi_seqU (pe_splitU (pv 0) pe_str)) (pg_name (i := 4) sc__law_read_rule.nd rfl (Or.inl rfl)) (pss_cons (ps_set (i := 5) sc__law_read_rule.nd rfl (Or.inl rfl) (pe_lst pa_nil))
 (pss_cons (ps_if (pt_cmpR (r := rNeU K) (op_neU hr.units) (pv 4) pe_str (nomark _)) (pss_one (ps_for PassesOwn.never rfl (pi_seqU (pe_splitU (pv 4) pe_str)) (pg_name (i := 6) sc__law_read_rule.nd rfl (Or.inl rfl)) (pss_cons (ps_set (i := 7) sc__law_read_rule.nd rfl (Or.inl rfl) (pe_cx c__law_read_symbol hr (by decide) pass0 (by rfl) (pa_cons (pv 6) (pa_cons (pv 1) (pa_cons (pv 2) pa_nil)))))
 (pss_cons (ps_if (pt_cmpR op_isU (pv 7) pe_non (nomark _)) (pss_one (ps_ret pe_non)) pss_nil)
 (pss_one (ps_expr (pe_bm PySem.F.plainAttrs_list PySem.F.slot_list_append PySem.F.type_list_append mt_append (pv 5) (pa_cons (pv 7) pa_nil)))))))) pss_nil)
 (pss_one (ps_expr (pe_bm PySem.F.plainAttrs_list PySem.F.slot_list_append PySem.F.type_list_append mt_append (pv 3) (pa_cons (pe_callTy (r := rTupleU K) call_tupleU (by rfl) T.b_tuple PyProof.Rows.boot_tuple (pa_cons (pv 5) pa_nil)) pa_nil)))))))
 (pss_cons (ps_if (PW.pt (pw_or (pt_cmpR (r := rNeU K) (op_neU hr.units) (pe_callB (r := rLenU K) call_lenU (by rfl) T.b_len PySem.boot_len (pa_cons (pv 3) pa_nil)) pe_int (nomark _)) (pw_or1 (pt_cmpR (r := rEqU K) (op_eqU hr.units) (pe_callB (r := rLenU K) call_lenU (by rfl) T.b_len PySem.boot_len (pa_cons (pe_lc (own := [("symbol", 7)]) rfl sc__law_read_rule.nd (pi_seqU (pe_ix (r := rIx K) ix_seq (pv 3) pe_int (fun _ _ => rfl))) (blkOk_by (N := N__law_read_rule) (sc := defScope s__law_read_rule) (by decide +kernel)) (fun _ _ _ _ _ => (pg_name (i := 7) sc__law_read_rule.nd rfl (Or.inl rfl))) (fun _ _ _ _ _ => (pts_one (pt_not (pt_truthK (K := K) rfl (pe_callB (r := rIsi K) call_isi (by rfl) T.b_isinstance (by decide +kernel) (pa_cons (pv 7) (pa_cons (pe_bltn (v := .ty "str") (u := .type "str") (by rfl) T.b_str (by decide +kernel) rfl) pa_nil))) (fun _ => rfl))))) (fun _ _ _ _ _ => (pv 7))) pa_nil)) pe_int (nomark _))))) (pss_one (ps_ret pe_non)) pss_nil)
 (pss_cons (ps_if (pt_cmpR (r := rNeU K) (op_neU hr.units) (pe_op (r := rAddU K) op_addU (pe_op (r := rAddU K) op_addU (pe_cx c__law_side hr (by decide) pass0 (by rfl) (pa_cons (pe_ix (r := rIx K) ix_seq (pv 3) pe_int (fun _ _ => rfl)) pa_nil)) pe_str) (pe_cx c__law_side hr (by decide) pass0 (by rfl) (pa_cons (pe_ix (r := rIx K) ix_seq (pv 3) pe_int (fun _ _ => rfl)) pa_nil))) (pv 0) (nomark _)) (pss_one (ps_ret pe_non)) pss_nil)
 (pss_one (ps_ret (pe_tup (pa_cons (pe_ix (r := rIx K) ix_seq (pv 3) pe_int (fun _ _ => rfl)) (pa_cons (pe_ix (r := rIx K) ix_seq (pv 3) pe_int (fun _ _ => rfl)) pa_nil))))))))), run_def (E := E) rfl (fun W0 => ?_) h⟩
    exact (vs_seq (vs_asgN (i := 3) (vn_lst va_nil))
 (vs_seq (vs_for (vi_seqU (vt_vn (vn_split (b1 := false) (b2 := false) (vt_look 0) vt_str))) (vg_name 4) (vs_seq (vs_asgN (i := 5) (vn_lst va_nil))
 (vs_seq (vs_if (vb_test (b := false) (vt_opS (b1 := false) (b2 := false) ros_ne (vt_look 4) vt_str)) (vs_for (vi_seqU (vt_vn (vn_split (b1 := false) (b2 := false) (vt_look 4) vt_str))) (vg_name 6) (vs_seq (vs_asg (vt_call (va_cons (vt_var 6) (va_cons (vt_var 1) (va_cons (vt_var 2) va_nil)))) (vg_name 7))
 (vs_seq (vs_if (vb_test (b := false) (vt_opS (b1 := false) (b2 := false) ros_is (vt_look 7) vt_non)) (vs_ret vt_non) vs_next)
 (vs_append (i := 5) (vt_var 7))))) vs_next)
 (vs_frz 5 (vs_append (i := 3) (vt_cb rc_tuple (va_cons (vt_var 5) va_nil)))))))
 (vs_seq (vs_if (vb_or (vb_test (b := false) (vt_opS (b1 := false) (b2 := false) ros_ne (vt_cbS (b1 := false) rcs_len (va_cons (vt_look 3) va_nil)) vt_int)) (vb_test (b := false) (vt_opS (b1 := false) (b2 := false) ros_eq (vt_cbS (b1 := false) rcs_len (va_cons (vt_vn (vn_lc (vi_seqU (vt_ixv (i := 3) (b2 := false) vt_int)) (vg_name 7) (by decide) (vb_not (vb_tru (b := false) (vt_isi (n := "str") (b1 := false) (vt_look 7)))) (vt_var 7))) va_nil)) vt_int))) (vs_ret vt_non) vs_next)
 (vs_seq (vs_if (vb_test (b := false) (vt_opS (b1 := false) (b2 := false) ros_ne (vt_op ro_add (vt_op ro_add (vt_call (va_cons (vt_ixv (i := 3) (b2 := false) vt_int) va_nil)) vt_str) (vt_call (va_cons (vt_ixv (i := 3) (b2 := false) vt_int) va_nil))) (vt_look 0))) (vs_ret vt_non) vs_next)
 (vs_ret (vt_tup (va_cons (vt_ixv (i := 3) (b2 := false) vt_int) (va_cons (vt_ixv (i := 3) (b2 := false) vt_int) va_nil))))))))), hm, F.kp, b⟩

theorem ok__law_read (T : Txt K mg A) (c__law_is_alphabet : CalX P w K mg base CX0 1 "_law_is_alphabet" (spP K (m__law_is_alphabet A))) (c__law_number : CalX P w K mg base CX0 1 "_law_number" (spP K (m__law_number A))) (c__law_read_rule : CalX P w K mg base CX0 3 "_law_read_rule" (spP K (m__law_read_rule A))) (c__law_written : CalX P w K mg base CX0 2 "_law_written" (spP K (m__law_written A))) {f : Addr} {fd : FuncData} (F : Fun K "_law_read" "_law_read" s__law_read f fd) (hm : mg "_law_read" = some (.ref f)) (b : Binds K fd ["string"] []) :
    CalX P w K mg base CX0 4 "_law_read" (spP K (m__law_read A)) :=
  ⟨f, fd, ["string"], F.ok sc__law_read (spP_len fun ds r h => (mOf_len h).1) (fun cdv A' outer s H vs Q E hr h => by
    refine ⟨_, (pss_cons (ps_set (i := 1) sc__law_read.nd rfl (Or.inl rfl) (pe_splitU (pv 0) pe_str))
 (pss_cons (ps_set (i := 2) sc__law_read.nd rfl (Or.inl rfl) (pe_splitU (pe_ix (r := rIx K) ix_seq (pv 1) pe_int (fun _ _ => rfl)) pe_str))
 (pss_cons (ps_if (PW.pt (pw_or (pt_cmpR (r := rNeU K) (op_neU hr.units) (pe_callB (r := rLenU K) call_lenU (by rfl) T.b_len PySem.boot_len (pa_cons (pv 2) pa_nil)) pe_int (nomark _)) (pw_or1 (pt_not (pt_truthK (K := K) rfl (pe_cx c__law_is_alphabet hr (by decide) pass0 (by rfl) (pa_cons (pe_ix (r := rIx K) ix_seq (pv 2) pe_int (fun _ _ => rfl)) pa_nil)) (fun _ => rfl)))))) (pss_one (ps_ret (pe_tup (pa_cons pe_str (pa_cons pe_int pa_nil))))) pss_nil)
 (pss_cons (ps_set (i := 3) sc__law_read.nd rfl (Or.inl rfl) (pe_cx c__law_number hr (by decide) pass0 (by rfl) (pa_cons (pe_ix (r := rIx K) ix_seq (pv 2) pe_int (fun _ _ => rfl)) pa_nil)))
 (pss_cons (ps_if (PW.pt (pw_or (pt_cmpR op_isU (pv 3) pe_non (nomark _)) (pw_or (pt_cmpR op_ltU (pv 3) pe_int (nomark _)) (pw_or1 (pt_cmpR (r := rNeU K) (op_neU hr.units) (pe_ix (r := rIx K) ix_seq (pv 1) pe_int (fun _ _ => rfl)) (pe_cx c__law_written hr (by decide) pass0 (by rfl) (pa_cons (pe_ix (r := rIx K) ix_seq (pv 2) pe_int (fun _ _ => rfl)) (pa_cons (pv 3) (pa_cons (pe_lst pa_nil) pa_nil)))) (nomark _)))))) (pss_one (ps_ret (pe_tup (pa_cons pe_str (pa_cons pe_int pa_nil))))) pss_nil)
 (pss_cons (ps_set (i := 4) sc__law_read.nd rfl (Or.inl rfl) (pe_lst pa_nil))
 (pss_cons (ps_for PassesOwn.never rfl (pi_range2 (by rfl) T.b_range (pa_cons pe_int (pa_cons (pe_callB (r := rLenU K) call_lenU (by rfl) T.b_len PySem.boot_len (pa_cons (pv 1) pa_nil)) pa_nil))) (pg_name (i := 5) sc__law_read.nd rfl (Or.inl rfl)) (pss_cons (ps_set (i := 6) sc__law_read.nd rfl (Or.inl rfl) (pe_cx c__law_read_rule hr (by decide) pass0 (by rfl) (pa_cons (pe_ix (r := rIx K) ix_seq (pv 1) (pv 5) (fun _ _ => rfl)) (pa_cons (pe_ix (r := rIx K) ix_seq (pv 2) pe_int (fun _ _ => rfl)) (pa_cons (pv 3) pa_nil)))))
 (pss_cons (ps_if (pt_cmpR op_isU (pv 6) pe_non (nomark _)) (pss_one (ps_ret (pe_tup (pa_cons pe_str (pa_cons (pv 5) pa_nil))))) pss_nil)
 (pss_one (ps_expr (pe_bm PySem.F.plainAttrs_list PySem.F.slot_list_append PySem.F.type_list_append mt_append (pv 4) (pa_cons (pv 6) pa_nil)))))))
 (pss_one (ps_ret (pe_tup (pa_cons pe_str (pa_cons (pe_ix (r := rIx K) ix_seq (pv 2) pe_int (fun _ _ => rfl)) (pa_cons (pv 3) (pa_cons (pv 4) pa_nil)))))))))))))), run_def (E := E) rfl (fun W0 => ?_) h⟩
    exact (vs_seq (vs_asg (vt_vn (vn_split (b1 := false) (b2 := false) (vt_look 0) vt_str)) (vg_name 1))
 (vs_seq (vs_asg (vt_vn (vn_split (b1 := false) (b2 := false) (vt_ixv (i := 1) (b2 := false) vt_int) vt_str)) (vg_name 2))
 (vs_seq (vs_if (vb_or (vb_test (b := false) (vt_opS (b1 := false) (b2 := false) ros_ne (vt_cbS (b1 := false) rcs_len (va_cons (vt_look 2) va_nil)) vt_int)) (vb_not (vb_tru (b := false) (vt_call (va_cons (vt_ixv (i := 2) (b2 := false) vt_int) va_nil))))) (vs_ret (vt_tup (va_cons vt_str (va_cons vt_int va_nil)))) vs_next)
 (vs_seq (vs_asg (vt_call (va_cons (vt_ixv (i := 2) (b2 := false) vt_int) va_nil)) (vg_name 3))
 (vs_seq (vs_if (vb_or (vb_test (b := false) (vt_opS (b1 := false) (b2 := false) ros_is (vt_look 3) vt_non)) (vb_or (vb_test (b := false) (vt_opS (b1 := false) (b2 := false) ros_cmp (vt_look 3) vt_int)) (vb_test (b := false) (vt_opS (b1 := false) (b2 := false) ros_ne (vt_ixv (i := 1) (b2 := false) vt_int) (vt_call (va_cons (vt_ixv (i := 2) (b2 := false) vt_int) (va_cons (vt_look 3) (va_cons (vt_vn (vn_lst va_nil)) va_nil)))))))) (vs_ret (vt_tup (va_cons vt_str (va_cons vt_int va_nil)))) vs_next)
 (vs_seq (vs_asgN (i := 4) (vn_lst va_nil))
 (vs_seq (vs_for (vi_rg2 (b := false) (va_cons vt_int (va_cons (vt_cbS (b1 := false) rcs_len (va_cons (vt_look 1) va_nil)) va_nil))) (vg_name 5) (vs_seq (vs_asg (vt_call (va_cons (vt_ixv (i := 1) (b2 := false) (vt_look 5)) (va_cons (vt_ixv (i := 2) (b2 := false) vt_int) (va_cons (vt_var 3) va_nil)))) (vg_name 6))
 (vs_seq (vs_if (vb_test (b := false) (vt_opS (b1 := false) (b2 := false) ros_is (vt_look 6) vt_non)) (vs_ret (vt_tup (va_cons vt_str (va_cons (vt_var 5) va_nil)))) vs_next)
 (vs_append (i := 4) (vt_var 6)))))
 (vs_ret (vt_tup (va_cons vt_str (va_cons (vt_ixv (i := 2) (b2 := false) vt_int) (va_cons (vt_var 3) (va_cons (vt_var 4) va_nil)))))))))))))), hm, F.kp, b⟩

theorem ok__law_word (T : Txt K mg A)  {f : Addr} {fd : FuncData} (F : Fun K "_law_word" "_law_word" s__law_word f fd) (hm : mg "_law_word" = some (.ref f)) (b : Binds K fd ["digit", "alphabet", "variables"] []) :
    CalX P w K mg base CX0 1 "_law_word" (spP K (m__law_word A)) :=
  ⟨f, fd, ["digit", "alphabet", "variables"], F.ok sc__law_word (spP_len fun ds r h => (mOf_len h).1) (fun cdv A' outer s H vs Q E hr h => by
    refine ⟨_, (pss_cons (ps_set (i := 3) sc__law_word.nd rfl (Or.inl rfl) (pe_callTy (r := rStrU) call_strU (by rfl) T.b_str (by decide +kernel) (pa_cons (pe_op op_mod (pe_callTy call_intU (by rfl) T.b_int PyProof.Rows.boot_int (pa_cons (pe_op op_fdivW (pv 0) pe_int) pa_nil)) (pv 2)) pa_nil)))
 (pss_cons (ps_set (i := 4) sc__law_word.nd rfl (Or.inl rfl) (pe_lst (pa_cons (pv 3) (pa_cons (pe_op (r := rAddU K) op_addU pe_str (pv 3)) (pa_cons pe_str (pa_cons pe_str (pa_cons (pe_op (r := rAddU K) op_addU pe_str (pv 3)) (pa_cons pe_str (pa_cons (pe_callTy (r := rStrU) call_strU (by rfl) T.b_str (by decide +kernel) (pa_cons (pv 2) pa_nil)) (pa_cons (pe_callTy (r := rStrU) call_strU (by rfl) T.b_str (by decide +kernel) (pa_cons (pe_op op_sub (pv 2) pe_int) pa_nil)) (pa_cons (pe_callTy (r := rStrU) call_strU (by rfl) T.b_str (by decide +kernel) (pa_cons (pe_op (r := rAddU K) op_addU (pv 2) pe_int) pa_nil)) pa_nil)))))))))))
 (pss_cons (ps_set (i := 4) sc__law_word.nd rfl (Or.inl rfl) (pe_op (r := rAddU K) op_addU (pv 4) (pe_lst (pa_cons pe_str (pa_cons pe_str (pa_cons pe_str (pa_cons pe_str (pa_cons pe_str (pa_cons pe_str (pa_cons pe_str (pa_cons pe_str (pa_cons pe_str (pa_cons pe_str (pa_cons pe_str (pa_cons pe_str (pa_cons pe_str pa_nil))))))))))))))))
 (pss_cons (ps_set (i := 4) sc__law_word.nd rfl (Or.inl rfl) (pe_op (r := rAddU K) op_addU (pv 4) (pe_lst (pa_cons pe_str (pa_cons pe_str (pa_cons (pe_ix (r := rIx K) ix_seq (pv 1) pe_int (fun _ _ => rfl)) (pa_cons (pe_ix (r := rIx K) ix_seq (pv 1) (pe_op op_sub (pe_callB (r := rLenU K) call_lenU (by rfl) T.b_len PySem.boot_len (pa_cons (pv 1) pa_nil)) pe_int) (fun _ _ => rfl)) (pa_cons (pe_op (r := rAddU K) op_addU (pv 1) (pe_ix (r := rIx K) ix_seq (pv 1) pe_int (fun _ _ => rfl))) (pa_cons (pe_revS (pv 1)) (pa_cons (pv 1) pa_nil))))))))))
 (pss_cons (ps_set (i := 4) sc__law_word.nd rfl (Or.inl rfl) (pe_op (r := rAddU K) op_addU (pv 4) (pe_lst (pa_cons pe_str (pa_cons pe_str (pa_cons pe_str (pa_cons pe_str (pa_cons pe_str (pa_cons pe_str (pa_cons pe_str (pa_cons pe_str (pa_cons (pe_op (r := rAddU K) op_addU (pv 3) pe_str) (pa_cons (pe_op (r := rAddU K) op_addU (pv 3) (pe_ix (r := rIx K) ix_seq (pv 1) pe_int (fun _ _ => rfl))) (pa_cons pe_str pa_nil))))))))))))))
 (pss_one (ps_ret (pe_ix (r := rIx K) ix_seq (pv 4) (pe_op op_mod (pe_callTy call_intU (by rfl) T.b_int PyProof.Rows.boot_int (pa_cons (pv 0) pa_nil)) pe_int) (fun _ _ => rfl))))))))), run_def (E := E) rfl (fun W0 => ?_) h⟩
    exact (vs_seq (vs_asg (vt_cbS (b1 := false) rcs_str (va_cons (vt_opS (b1 := false) (b2 := false) (ros_I (C := PosR) (f := fun i j => i % j)) (vt_cbS (b1 := false) rcs_int (va_cons (vt_opS (b1 := false) (b2 := false) (ros_I (C := CDivW) (f := fun i j => i / j)) (vt_look 0) vt_int) va_nil)) (vt_look 2)) va_nil)) (vg_name 3))
 (vs_seq (vs_asg (vt_vn (vn_lst (va_cons (vt_var 3) (va_cons (vt_op ro_add vt_str (vt_var 3)) (va_cons vt_str (va_cons vt_str (va_cons (vt_op ro_add vt_str (vt_var 3)) (va_cons vt_str (va_cons (vt_cbS (b1 := false) rcs_str (va_cons (vt_look 2) va_nil)) (va_cons (vt_cbS (b1 := false) rcs_str (va_cons (vt_opS (b1 := false) (b2 := false) ros_sub (vt_look 2) vt_int) va_nil)) (va_cons (vt_cbS (b1 := false) rcs_str (va_cons (vt_op ro_add (vt_look 2) vt_int) va_nil)) va_nil))))))))))) (vg_name 4))
 (vs_seq (vs_asg (vt_op ro_add (vt_var 4) (vt_vn (vn_lst (va_cons vt_str (va_cons vt_str (va_cons vt_str (va_cons vt_str (va_cons vt_str (va_cons vt_str (va_cons vt_str (va_cons vt_str (va_cons vt_str (va_cons vt_str (va_cons vt_str (va_cons vt_str (va_cons vt_str va_nil)))))))))))))))) (vg_name 4))
 (vs_seq (vs_asg (vt_op ro_add (vt_var 4) (vt_vn (vn_lst (va_cons vt_str (va_cons vt_str (va_cons (vt_ixv (i := 1) (b2 := false) vt_int) (va_cons (vt_ixv (i := 1) (b2 := false) (vt_opS (b1 := false) (b2 := false) ros_sub (vt_cbS (b1 := false) rcs_len (va_cons (vt_look 1) va_nil)) vt_int)) (va_cons (vt_op ro_add (vt_var 1) (vt_ixv (i := 1) (b2 := false) vt_int)) (va_cons (vt_revS (b' := true) (vt_var 1)) (va_cons (vt_var 1) va_nil)))))))))) (vg_name 4))
 (vs_seq (vs_asg (vt_op ro_add (vt_var 4) (vt_vn (vn_lst (va_cons vt_str (va_cons vt_str (va_cons vt_str (va_cons vt_str (va_cons vt_str (va_cons vt_str (va_cons vt_str (va_cons vt_str (va_cons (vt_op ro_add (vt_var 3) vt_str) (va_cons (vt_op ro_add (vt_var 3) (vt_ixv (i := 1) (b2 := false) vt_int)) (va_cons vt_str va_nil)))))))))))))) (vg_name 4))
 (vs_ret (vt_ixv (i := 4) (b2 := false) (vt_opS (b1 := false) (b2 := false) (ros_I (C := PosR) (f := fun i j => i % j)) (vt_cbS (b1 := false) rcs_int (va_cons (vt_look 0) va_nil)) vt_int))))))))), hm, F.kp, b⟩

theorem ok__law_changed_line (T : Txt K mg A)  {f : Addr} {fd : FuncData} (F : Fun K "_law_changed_line" "_law_changed_line" s__law_changed_line f fd) (hm : mg "_law_changed_line" = some (.ref f)) (b : Binds K fd ["line", "which", "digit", "word"] []) :
    CalX P w K mg base CX0 1 "_law_changed_line" (spP K (m__law_changed_line A)) :=
  ⟨f, fd, ["line", "which", "digit", "word"], F.ok sc__law_changed_line (spP_len fun ds r h => (mOf_len h).1) (fun cdv A' outer s H vs Q E hr h => by
    refine ⟨_, (pss_cons (ps_set (i := 4) sc__law_changed_line.nd rfl (Or.inl rfl) (pe_splitU (pv 0) pe_str))
 (pss_cons (ps_set (i := 5) sc__law_changed_line.nd rfl (Or.inl rfl) (pe_op op_mod (pe_callTy call_intU (by rfl) T.b_int PyProof.Rows.boot_int (pa_cons (pv 2) pa_nil)) (pe_callB (r := rLenU K) call_lenU (by rfl) T.b_len PySem.boot_len (pa_cons (pv 4) pa_nil))))
 (pss_cons (ps_if (pt_cmpR (r := rEqU K) (op_eqU hr.units) (pv 1) pe_int (nomark _)) (pss_one (ps_ret (pe_joinU (K := K) rfl pe_str (pe_op (r := rAddU K) op_addU (pe_op (r := rAddU K) op_addU (pe_slice (r := rCutU K) sl_U (pv 4) po_none (po_some (pv 5))) (pe_lst (pa_cons (pv 3) pa_nil))) (pe_slice (r := rCutU K) sl_U (pv 4) (po_some (pe_op (r := rAddU K) op_addU (pv 5) pe_int)) po_none))))) pss_nil)
 (pss_cons (ps_if (pt_cmpR (r := rEqU K) (op_eqU hr.units) (pv 1) pe_int (nomark _)) (pss_one (ps_ret (pe_joinU (K := K) rfl pe_str (pe_op (r := rAddU K) op_addU (pe_op (r := rAddU K) op_addU (pe_slice (r := rCutU K) sl_U (pv 4) po_none (po_some (pv 5))) (pe_lst (pa_cons (pv 3) pa_nil))) (pe_slice (r := rCutU K) sl_U (pv 4) (po_some (pv 5)) po_none))))) pss_nil)
 (pss_one (ps_ret (pe_joinU (K := K) rfl pe_str (pe_op (r := rAddU K) op_addU (pe_slice (r := rCutU K) sl_U (pv 4) po_none (po_some (pv 5))) (pe_slice (r := rCutU K) sl_U (pv 4) (po_some (pe_op (r := rAddU K) op_addU (pv 5) pe_int)) po_none))))))))), run_def (E := E) rfl (fun W0 => ?_) h⟩
    exact (vs_seq (vs_asg (vt_vn (vn_split (b1 := false) (b2 := false) (vt_look 0) vt_str)) (vg_name 4))
 (vs_seq (vs_asg (vt_opS (b1 := false) (b2 := false) (ros_I (C := PosR) (f := fun i j => i % j)) (vt_cbS (b1 := false) rcs_int (va_cons (vt_look 2) va_nil)) (vt_cbS (b1 := false) rcs_len (va_cons (vt_look 4) va_nil))) (vg_name 5))
 (vs_seq (vs_if (vb_test (b := false) (vt_opS (b1 := false) (b2 := false) ros_eq (vt_look 1) vt_int)) (vs_ret (vt_join (b1 := false) (b2 := false) vt_str (vt_op ro_add (vt_op ro_add (vt_cut (vt_look 4) vo_none (vo_some (b := false) (vt_look 5))) (vt_vn (vn_lst (va_cons (vt_var 3) va_nil)))) (vt_cut (vt_look 4) (vo_some (b := false) (vt_op ro_add (vt_look 5) vt_int)) vo_none)))) vs_next)
 (vs_seq (vs_if (vb_test (b := false) (vt_opS (b1 := false) (b2 := false) ros_eq (vt_look 1) vt_int)) (vs_ret (vt_join (b1 := false) (b2 := false) vt_str (vt_op ro_add (vt_op ro_add (vt_cut (vt_look 4) vo_none (vo_some (b := false) (vt_look 5))) (vt_vn (vn_lst (va_cons (vt_var 3) va_nil)))) (vt_cut (vt_look 4) (vo_some (b := false) (vt_look 5)) vo_none)))) vs_next)
 (vs_ret (vt_join (b1 := false) (b2 := false) vt_str (vt_op ro_add (vt_cut (vt_look 4) vo_none (vo_some (b := false) (vt_look 5))) (vt_cut (vt_look 4) (vo_some (b := false) (vt_op ro_add (vt_look 5) vt_int)) vo_none))))))))), hm, F.kp, b⟩

theorem ok__law_changed (T : Txt K mg A) (c__law_changed_line : CalX P w K mg base CX0 1 "_law_changed_line" (spP K (m__law_changed_line A))) (c__law_word : CalX P w K mg base CX0 1 "_law_word" (spP K (m__law_word A))) {f : Addr} {fd : FuncData} (F : Fun K "_law_changed" "_law_changed" s__law_changed f fd) (hm : mg "_law_changed" = some (.ref f)) (b : Binds K fd ["string", "row", "alphabet", "variables"] []) :
    CalX P w K mg base CX0 2 "_law_changed" (spP K (m__law_changed A)) :=
  ⟨f, fd, ["string", "row", "alphabet", "variables"], F.ok sc__law_changed (spP_len fun ds r h => (mOf_len h).1) (fun cdv A' outer s H vs Q E hr h => by
    refine ⟨_, (pss_cons (ps_set (i := 4) sc__law_changed.nd rfl (Or.inl rfl) (pe_op op_mod (pe_callTy call_intU (by rfl) T.b_int PyProof.Rows.boot_int (pa_cons (pe_ix (r := rIx K) ix_seq (pv 1) pe_int (fun _ _ => rfl)) pa_nil)) (pe_callB (r := rLenU K) call_lenU (by rfl) T.b_len PySem.boot_len (pa_cons (pv 0) pa_nil))))
 (pss_cons (ps_set (i := 5) sc__law_changed.nd rfl (Or.inl rfl) (pe_ix (r := rIx K) ix_seq pe_str (pe_op op_mod (pe_callTy call_intU (by rfl) T.b_int PyProof.Rows.boot_int (pa_cons (pe_ix (r := rIx K) ix_seq (pv 1) pe_int (fun _ _ => rfl)) pa_nil)) pe_int) (fun _ _ => rfl)))
 (pss_cons (ps_if (pt_cmpR (r := rEqU K) (op_eqU hr.units) (pe_ix (r := rIx K) ix_seq (pv 1) pe_int (fun _ _ => rfl)) pe_int (nomark _)) (pss_one (ps_ret (pe_op (r := rAddU K) op_addU (pe_op (r := rAddU K) op_addU (pe_slice (r := rCutU K) sl_U (pv 0) po_none (po_some (pv 4))) (pv 5)) (pe_slice (r := rCutU K) sl_U (pv 0) (po_some (pv 4)) po_none)))) pss_nil)
 (pss_cons (ps_if (pt_cmpR (r := rEqU K) (op_eqU hr.units) (pe_ix (r := rIx K) ix_seq (pv 1) pe_int (fun _ _ => rfl)) pe_int (nomark _)) (pss_one (ps_ret (pe_op (r := rAddU K) op_addU (pe_slice (r := rCutU K) sl_U (pv 0) po_none (po_some (pv 4))) (pe_slice (r := rCutU K) sl_U (pv 0) (po_some (pe_op (r := rAddU K) op_addU (pv 4) pe_int)) po_none)))) pss_nil)
 (pss_cons (ps_if (pt_cmpR (r := rEqU K) (op_eqU hr.units) (pe_ix (r := rIx K) ix_seq (pv 1) pe_int (fun _ _ => rfl)) pe_int (nomark _)) (pss_one (ps_ret (pe_op (r := rAddU K) op_addU (pe_op (r := rAddU K) op_addU (pe_slice (r := rCutU K) sl_U (pv 0) po_none (po_some (pv 4))) (pv 5)) (pe_slice (r := rCutU K) sl_U (pv 0) (po_some (pe_op (r := rAddU K) op_addU (pv 4) pe_int)) po_none)))) pss_nil)
 (pss_cons (ps_if (pt_cmpR (r := rEqU K) (op_eqU hr.units) (pe_ix (r := rIx K) ix_seq (pv 1) pe_int (fun _ _ => rfl)) pe_int (nomark _)) (pss_one (ps_ret (pe_op (r := rAddU K) op_addU (pe_op (r := rAddU K) op_addU (pe_op (r := rAddU K) op_addU (pe_slice (r := rCutU K) sl_U (pv 0) po_none (po_some (pv 4))) (pe_slice (r := rCutU K) sl_U (pv 0) (po_some (pe_op (r := rAddU K) op_addU (pv 4) pe_int)) (po_some (pe_op (r := rAddU K) op_addU (pv 4) pe_int)))) (pe_ix (r := rIx K) ix_seq (pv 0) (pv 4) (fun _ _ => rfl))) (pe_slice (r := rCutU K) sl_U (pv 0) (po_some (pe_op (r := rAddU K) op_addU (pv 4) pe_int)) po_none)))) pss_nil)
 (pss_cons (ps_if (pt_cmpR (r := rEqU K) (op_eqU hr.units) (pe_ix (r := rIx K) ix_seq (pv 1) pe_int (fun _ _ => rfl)) pe_int (nomark _)) (pss_one (ps_ret (pe_slice (r := rCutU K) sl_U (pv 0) po_none (po_some (pv 4))))) pss_nil)
 (pss_cons (ps_if (pt_cmpR (r := rEqU K) (op_eqU hr.units) (pe_ix (r := rIx K) ix_seq (pv 1) pe_int (fun _ _ => rfl)) pe_int (nomark _)) (pss_one (ps_ret (pe_op (r := rAddU K) op_addU (pe_op (r := rAddU K) op_addU (pv 0) pe_str) (pv 0)))) pss_nil)
 (pss_cons (ps_set (i := 6) sc__law_changed.nd rfl (Or.inl rfl) (pe_splitU (pv 0) pe_str))
 (pss_cons (ps_set (i := 7) sc__law_changed.nd rfl (Or.inl rfl) (pe_op op_mod (pe_callTy call_intU (by rfl) T.b_int PyProof.Rows.boot_int (pa_cons (pe_ix (r := rIx K) ix_seq (pv 1) pe_int (fun _ _ => rfl)) pa_nil)) (pe_callB (r := rLenU K) call_lenU (by rfl) T.b_len PySem.boot_len (pa_cons (pv 6) pa_nil))))
 (pss_cons (ps_if (pt_cmpR op_gtU (pe_ix (r := rIx K) ix_seq (pv 1) pe_int (fun _ _ => rfl)) pe_int (nomark _)) (pss_cons (ps_set (i := 7) sc__law_changed.nd rfl (Or.inl rfl) pe_int)
 (pss_one (ps_if (PW.pt (pw_and (pt_cmpR op_gtU (pe_ix (r := rIx K) ix_seq (pv 1) pe_int (fun _ _ => rfl)) pe_int (nomark _)) (pw_and1 (pt_cmpR op_gtU (pe_callB (r := rLenU K) call_lenU (by rfl) T.b_len PySem.boot_len (pa_cons (pv 6) pa_nil)) pe_int (nomark _))))) (pss_one (ps_set (i := 7) sc__law_changed.nd rfl (Or.inl rfl) (pe_op (r := rAddU K) op_addU pe_int (pe_op op_mod (pe_callTy call_intU (by rfl) T.b_int PyProof.Rows.boot_int (pa_cons (pe_ix (r := rIx K) ix_seq (pv 1) pe_int (fun _ _ => rfl)) pa_nil)) (pe_op op_sub (pe_callB (r := rLenU K) call_lenU (by rfl) T.b_len PySem.boot_len (pa_cons (pv 6) pa_nil)) pe_int))))) pss_nil))) pss_nil)
 (pss_cons (ps_if (pt_cmpR (r := rEqU K) (op_eqU hr.units) (pe_ix (r := rIx K) ix_seq (pv 1) pe_int (fun _ _ => rfl)) pe_int (nomark _)) (pss_one (ps_ret (pe_joinU (K := K) rfl pe_str (pe_op (r := rAddU K) op_addU (pe_slice (r := rCutU K) sl_U (pv 6) po_none (po_some (pv 7))) (pe_slice (r := rCutU K) sl_U (pv 6) (po_some (pe_op (r := rAddU K) op_addU (pv 7) pe_int)) po_none))))) pss_nil)
 (pss_cons (ps_if (pt_cmpR (r := rEqU K) (op_eqU hr.units) (pe_ix (r := rIx K) ix_seq (pv 1) pe_int (fun _ _ => rfl)) pe_int (nomark _)) (pss_one (ps_ret (pe_joinU (K := K) rfl pe_str (pe_op (r := rAddU K) op_addU (pe_slice (r := rCutU K) sl_U (pv 6) po_none (po_some (pe_op (r := rAddU K) op_addU (pv 7) pe_int))) (pe_slice (r := rCutU K) sl_U (pv 6) (po_some (pv 7)) po_none))))) pss_nil)
 (pss_cons (ps_if (pt_cmpR (r := rEqU K) (op_eqU hr.units) (pe_ix (r := rIx K) ix_seq (pv 1) pe_int (fun _ _ => rfl)) pe_int (nomark _)) (pss_one (ps_ret (pe_joinU (K := K) rfl pe_str (pe_op (r := rAddU K) op_addU (pe_op (r := rAddU K) op_addU (pe_op (r := rAddU K) op_addU (pe_slice (r := rCutU K) sl_U (pv 6) po_none (po_some (pv 7))) (pe_slice (r := rCutU K) sl_U (pv 6) (po_some (pe_op (r := rAddU K) op_addU (pv 7) pe_int)) (po_some (pe_op (r := rAddU K) op_addU (pv 7) pe_int)))) (pe_lst (pa_cons (pe_ix (r := rIx K) ix_seq (pv 6) (pv 7) (fun _ _ => rfl)) pa_nil))) (pe_slice (r := rCutU K) sl_U (pv 6) (po_some (pe_op (r := rAddU K) op_addU (pv 7) pe_int)) po_none))))) pss_nil)
 (pss_cons (ps_if (pt_cmpR (r := rEqU K) (op_eqU hr.units) (pe_ix (r := rIx K) ix_seq (pv 1) pe_int (fun _ _ => rfl)) pe_int (nomark _)) (pss_one (ps_ret (pe_joinU (K := K) rfl pe_str (pe_op (r := rAddU K) op_addU (pe_op (r := rAddU K) op_addU (pe_slice (r := rCutU K) sl_U (pv 6) po_none (po_some (pv 7))) (pe_lst (pa_cons pe_str pa_nil))) (pe_slice (r := rCutU K) sl_U (pv 6) (po_some (pv 7)) po_none))))) pss_nil)
 (pss_cons (ps_if (pt_cmpR (r := rEqU K) (op_eqU hr.units) (pe_ix (r := rIx K) ix_seq (pv 1) pe_int (fun _ _ => rfl)) pe_int (nomark _)) (pss_one (ps_ret (pe_joinU (K := K) rfl pe_str (pe_op (r := rAddU K) op_addU (pe_op (r := rAddU K) op_addU (pe_slice (r := rCutU K) sl_U (pv 6) po_none (po_some (pv 7))) (pe_lst (pa_cons (pe_op (r := rAddU K) op_addU (pe_ix (r := rIx K) ix_seq (pv 6) (pv 7) (fun _ _ => rfl)) (pe_ix (r := rIx K) ix_seq (pe_lst (pa_cons pe_str (pa_cons pe_str pa_nil))) (pe_op op_mod (pe_callTy call_intU (by rfl) T.b_int PyProof.Rows.boot_int (pa_cons (pe_ix (r := rIx K) ix_seq (pv 1) pe_int (fun _ _ => rfl)) pa_nil)) pe_int) (fun _ _ => rfl))) pa_nil))) (pe_slice (r := rCutU K) sl_U (pv 6) (po_some (pe_op (r := rAddU K) op_addU (pv 7) pe_int)) po_none))))) pss_nil)
 (pss_cons (ps_set (i := 8) sc__law_changed.nd rfl (Or.inl rfl) (pe_cx c__law_word hr (by decide) pass0 (by rfl) (pa_cons (pe_ix (r := rIx K) ix_seq (pv 1) pe_int (fun _ _ => rfl)) (pa_cons (pv 2) (pa_cons (pv 3) pa_nil)))))
 (pss_cons (ps_set (i := 9) sc__law_changed.nd rfl (Or.inl rfl) (pe_cx c__law_changed_line hr (by decide) pass0 (by rfl) (pa_cons (pe_ix (r := rIx K) ix_seq (pv 6) (pv 7) (fun _ _ => rfl)) (pa_cons (pe_ix (r := rIx K) ix_seq (pe_lst (pa_cons pe_int (pa_cons pe_int (pa_cons pe_int (pa_cons pe_int (pa_cons pe_int (pa_cons pe_int (pa_cons pe_int pa_nil)))))))) (pe_op op_sub (pe_ix (r := rIx K) ix_seq (pv 1) pe_int (fun _ _ => rfl)) pe_int) (fun _ _ => rfl)) (pa_cons (pe_ix (r := rIx K) ix_seq (pv 1) pe_int (fun _ _ => rfl)) (pa_cons (pv 8) pa_nil))))))
 (pss_one (ps_ret (pe_joinU (K := K) rfl pe_str (pe_op (r := rAddU K) op_addU (pe_op (r := rAddU K) op_addU (pe_slice (r := rCutU K) sl_U (pv 6) po_none (po_some (pv 7))) (pe_lst (pa_cons (pv 9) pa_nil))) (pe_slice (r := rCutU K) sl_U (pv 6) (po_some (pe_op (r := rAddU K) op_addU (pv 7) pe_int)) po_none))))))))))))))))))))))), run_def (E := E) rfl (fun W0 => ?_) h⟩
    exact (vs_seq (vs_asg (vt_opS (b1 := false) (b2 := false) (ros_I (C := PosR) (f := fun i j => i % j)) (vt_cbS (b1 := false) rcs_int (va_cons (vt_ixv (i := 1) (b2 := false) vt_int) va_nil)) (vt_cbS (b1 := false) rcs_len (va_cons (vt_look 0) va_nil))) (vg_name 4))
 (vs_seq (vs_asg (vt_op ro_ix vt_str (vt_opS (b1 := false) (b2 := false) (ros_I (C := PosR) (f := fun i j => i % j)) (vt_cbS (b1 := false) rcs_int (va_cons (vt_ixv (i := 1) (b2 := false) vt_int) va_nil)) vt_int)) (vg_name 5))
 (vs_seq (vs_if (vb_test (b := false) (vt_opS (b1 := false) (b2 := false) ros_eq (vt_ixv (i := 1) (b2 := false) vt_int) vt_int)) (vs_ret (vt_op ro_add (vt_op ro_add (vt_cut (vt_var 0) vo_none (vo_some (b := false) (vt_look 4))) (vt_var 5)) (vt_cut (vt_var 0) (vo_some (b := false) (vt_look 4)) vo_none))) vs_next)
 (vs_seq (vs_if (vb_test (b := false) (vt_opS (b1 := false) (b2 := false) ros_eq (vt_ixv (i := 1) (b2 := false) vt_int) vt_int)) (vs_ret (vt_op ro_add (vt_cut (vt_var 0) vo_none (vo_some (b := false) (vt_look 4))) (vt_cut (vt_var 0) (vo_some (b := false) (vt_op ro_add (vt_look 4) vt_int)) vo_none))) vs_next)
 (vs_seq (vs_if (vb_test (b := false) (vt_opS (b1 := false) (b2 := false) ros_eq (vt_ixv (i := 1) (b2 := false) vt_int) vt_int)) (vs_ret (vt_op ro_add (vt_op ro_add (vt_cut (vt_var 0) vo_none (vo_some (b := false) (vt_look 4))) (vt_var 5)) (vt_cut (vt_var 0) (vo_some (b := false) (vt_op ro_add (vt_look 4) vt_int)) vo_none))) vs_next)
 (vs_seq (vs_if (vb_test (b := false) (vt_opS (b1 := false) (b2 := false) ros_eq (vt_ixv (i := 1) (b2 := false) vt_int) vt_int)) (vs_ret (vt_op ro_add (vt_op ro_add (vt_op ro_add (vt_cut (vt_var 0) vo_none (vo_some (b := false) (vt_look 4))) (vt_cut (vt_var 0) (vo_some (b := false) (vt_op ro_add (vt_look 4) vt_int)) (vo_some (b := false) (vt_op ro_add (vt_look 4) vt_int)))) (vt_ixv (i := 0) (b2 := false) (vt_look 4))) (vt_cut (vt_var 0) (vo_some (b := false) (vt_op ro_add (vt_look 4) vt_int)) vo_none))) vs_next)
 (vs_seq (vs_if (vb_test (b := false) (vt_opS (b1 := false) (b2 := false) ros_eq (vt_ixv (i := 1) (b2 := false) vt_int) vt_int)) (vs_ret (vt_cut (vt_var 0) vo_none (vo_some (b := false) (vt_look 4)))) vs_next)
 (vs_seq (vs_if (vb_test (b := false) (vt_opS (b1 := false) (b2 := false) ros_eq (vt_ixv (i := 1) (b2 := false) vt_int) vt_int)) (vs_ret (vt_op ro_add (vt_op ro_add (vt_var 0) vt_str) (vt_var 0))) vs_next)
 (vs_seq (vs_asg (vt_vn (vn_split (b1 := false) (b2 := false) (vt_look 0) vt_str)) (vg_name 6))
 (vs_seq (vs_asg (vt_opS (b1 := false) (b2 := false) (ros_I (C := PosR) (f := fun i j => i % j)) (vt_cbS (b1 := false) rcs_int (va_cons (vt_ixv (i := 1) (b2 := false) vt_int) va_nil)) (vt_cbS (b1 := false) rcs_len (va_cons (vt_look 6) va_nil))) (vg_name 7))
 (vs_seq (vs_if (vb_test (b := false) (vt_opS (b1 := false) (b2 := false) ros_cmp (vt_ixv (i := 1) (b2 := false) vt_int) vt_int)) (vs_seq (vs_asg vt_int (vg_name 7))
 (vs_if (vb_and (vb_test (b := false) (vt_opS (b1 := false) (b2 := false) ros_cmp (vt_ixv (i := 1) (b2 := false) vt_int) vt_int)) (vb_test (b := false) (vt_opS (b1 := false) (b2 := false) ros_cmp (vt_cbS (b1 := false) rcs_len (va_cons (vt_look 6) va_nil)) vt_int))) (vs_asg (vt_op ro_add vt_int (vt_opS (b1 := false) (b2 := false) (ros_I (C := PosR) (f := fun i j => i % j)) (vt_cbS (b1 := false) rcs_int (va_cons (vt_ixv (i := 1) (b2 := false) vt_int) va_nil)) (vt_opS (b1 := false) (b2 := false) ros_sub (vt_cbS (b1 := false) rcs_len (va_cons (vt_look 6) va_nil)) vt_int))) (vg_name 7)) vs_next)) vs_next)
 (vs_seq (vs_if (vb_test (b := false) (vt_opS (b1 := false) (b2 := false) ros_eq (vt_ixv (i := 1) (b2 := false) vt_int) vt_int)) (vs_ret (vt_join (b1 := false) (b2 := false) vt_str (vt_op ro_add (vt_cut (vt_look 6) vo_none (vo_some (b := false) (vt_look 7))) (vt_cut (vt_look 6) (vo_some (b := false) (vt_op ro_add (vt_look 7) vt_int)) vo_none)))) vs_next)
 (vs_seq (vs_if (vb_test (b := false) (vt_opS (b1 := false) (b2 := false) ros_eq (vt_ixv (i := 1) (b2 := false) vt_int) vt_int)) (vs_ret (vt_join (b1 := false) (b2 := false) vt_str (vt_op ro_add (vt_cut (vt_look 6) vo_none (vo_some (b := false) (vt_op ro_add (vt_look 7) vt_int))) (vt_cut (vt_look 6) (vo_some (b := false) (vt_look 7)) vo_none)))) vs_next)
 (vs_seq (vs_if (vb_test (b := false) (vt_opS (b1 := false) (b2 := false) ros_eq (vt_ixv (i := 1) (b2 := false) vt_int) vt_int)) (vs_ret (vt_join (b1 := false) (b2 := false) vt_str (vt_op ro_add (vt_op ro_add (vt_op ro_add (vt_cut (vt_look 6) vo_none (vo_some (b := false) (vt_look 7))) (vt_cut (vt_look 6) (vo_some (b := false) (vt_op ro_add (vt_look 7) vt_int)) (vo_some (b := false) (vt_op ro_add (vt_look 7) vt_int)))) (vt_vn (vn_lst (va_cons (vt_ixv (i := 6) (b2 := false) (vt_look 7)) va_nil)))) (vt_cut (vt_look 6) (vo_some (b := false) (vt_op ro_add (vt_look 7) vt_int)) vo_none)))) vs_next)
 (vs_seq (vs_if (vb_test (b := false) (vt_opS (b1 := false) (b2 := false) ros_eq (vt_ixv (i := 1) (b2 := false) vt_int) vt_int)) (vs_ret (vt_join (b1 := false) (b2 := false) vt_str (vt_op ro_add (vt_op ro_add (vt_cut (vt_look 6) vo_none (vo_some (b := false) (vt_look 7))) (vt_vn (vn_lst (va_cons vt_str va_nil)))) (vt_cut (vt_look 6) (vo_some (b := false) (vt_look 7)) vo_none)))) vs_next)
 (vs_seq (vs_if (vb_test (b := false) (vt_opS (b1 := false) (b2 := false) ros_eq (vt_ixv (i := 1) (b2 := false) vt_int) vt_int)) (vs_ret (vt_join (b1 := false) (b2 := false) vt_str (vt_op ro_add (vt_op ro_add (vt_cut (vt_look 6) vo_none (vo_some (b := false) (vt_look 7))) (vt_vn (vn_lst (va_cons (vt_op ro_add (vt_ixv (i := 6) (b2 := false) (vt_look 7)) (vt_op ro_ix (vt_vn (vn_lst (va_cons vt_str (va_cons vt_str va_nil)))) (vt_opS (b1 := false) (b2 := false) (ros_I (C := PosR) (f := fun i j => i % j)) (vt_cbS (b1 := false) rcs_int (va_cons (vt_ixv (i := 1) (b2 := false) vt_int) va_nil)) vt_int))) va_nil)))) (vt_cut (vt_look 6) (vo_some (b := false) (vt_op ro_add (vt_look 7) vt_int)) vo_none)))) vs_next)
 (vs_seq (vs_asg (vt_call (va_cons (vt_ixv (i := 1) (b2 := false) vt_int) (va_cons (vt_var 2) (va_cons (vt_var 3) va_nil)))) (vg_name 8))
 (vs_seq (vs_asg (vt_call (va_cons (vt_ixv (i := 6) (b2 := false) (vt_look 7)) (va_cons (vt_op ro_ix (vt_vn (vn_lst (va_cons vt_int (va_cons vt_int (va_cons vt_int (va_cons vt_int (va_cons vt_int (va_cons vt_int (va_cons vt_int va_nil))))))))) (vt_opS (b1 := false) (b2 := false) ros_sub (vt_ixv (i := 1) (b2 := false) vt_int) vt_int)) (va_cons (vt_ixv (i := 1) (b2 := false) vt_int) (va_cons (vt_var 8) va_nil))))) (vg_name 9))
 (vs_ret (vt_join (b1 := false) (b2 := false) vt_str (vt_op ro_add (vt_op ro_add (vt_cut (vt_look 6) vo_none (vo_some (b := false) (vt_look 7))) (vt_vn (vn_lst (va_cons (vt_var 9) va_nil)))) (vt_cut (vt_look 6) (vo_some (b := false) (vt_op ro_add (vt_look 7) vt_int)) vo_none))))))))))))))))))))))), hm, F.kp, b⟩

theorem ok__law_side_alike (T : Txt K mg A) (c__law_whole : CalX P w K mg base CX0 1 "_law_whole" (spP K (m__law_whole A))) {f : Addr} {fd : FuncData} (F : Fun K "_law_side_alike" "_law_side_alike" s__law_side_alike f fd) (hm : mg "_law_side_alike" = some (.ref f)) (b : Binds K fd ["told", "side"] []) :
    CalX P w K mg base CX0 2 "_law_side_alike" (spP K (m__law_side_alike A)) :=
  ⟨f, fd, ["told", "side"], F.ok sc__law_side_alike (spP_len fun ds r h => (mOf_len h).1) (fun cdv A' outer s H vs Q E hr h => by
    refine ⟨_, (pss_cons (ps_if (PW.pt (pw_or (pt_not (pt_truthK (K := K) rfl (pe_callB (r := rIsi K) call_isi (by rfl) T.b_isinstance (by decide +kernel) (pa_cons (pv 0) (pa_cons (pe_bltn (v := .ty "tuple") (u := .type "tuple") (by rfl) T.b_tuple (by decide +kernel) rfl) pa_nil))) (fun _ => rfl))) (pw_or1 (pt_cmpR (r := rNeU K) (op_neU hr.units) (pe_callB (r := rLenU K) call_lenU (by rfl) T.b_len PySem.boot_len (pa_cons (pv 0) pa_nil)) (pe_callB (r := rLenU K) call_lenU (by rfl) T.b_len PySem.boot_len (pa_cons (pv 1) pa_nil)) (nomark _))))) (pss_one (ps_ret pe_bl)) pss_nil)
 (pss_cons (ps_for PassesOwn.never rfl (pi_range1 (by rfl) T.b_range (pa_cons (pe_callB (r := rLenU K) call_lenU (by rfl) T.b_len PySem.boot_len (pa_cons (pv 1) pa_nil)) pa_nil)) (pg_name (i := 2) sc__law_side_alike.nd rfl (Or.inl rfl)) (pss_one (ps_if (pt_truthK (K := K) rfl (pe_callB (r := rIsi K) call_isi (by rfl) T.b_isinstance (by decide +kernel) (pa_cons (pe_ix (r := rIx K) ix_seq (pv 1) (pv 2) (fun _ _ => rfl)) (pa_cons (pe_bltn (v := .ty "str") (u := .type "str") (by rfl) T.b_str (by decide +kernel) rfl) pa_nil))) (fun _ => rfl)) (pss_one (ps_if (PW.pt (pw_or (pt_not (pt_truthK (K := K) rfl (pe_callB (r := rIsi K) call_isi (by rfl) T.b_isinstance (by decide +kernel) (pa_cons (pe_ix (r := rIx K) ix_seq (pv 0) (pv 2) (fun _ _ => rfl)) (pa_cons (pe_bltn (v := .ty "str") (u := .type "str") (by rfl) T.b_str (by decide +kernel) rfl) pa_nil))) (fun _ => rfl))) (pw_or1 (pt_cmpR (r := rNeU K) (op_neU hr.units) (pe_ix (r := rIx K) ix_seq (pv 0) (pv 2) (fun _ _ => rfl)) (pe_ix (r := rIx K) ix_seq (pv 1) (pv 2) (fun _ _ => rfl)) (nomark _))))) (pss_one (ps_ret pe_bl)) pss_nil)) (pss_one (ps_if (PW.pt (pw_or (pt_not (pt_truthK (K := K) rfl (pe_cx c__law_whole hr (by decide) pass0 (by rfl) (pa_cons (pe_ix (r := rIx K) ix_seq (pv 0) (pv 2) (fun _ _ => rfl)) pa_nil)) (fun _ => rfl))) (pw_or1 (pt_cmpR (r := rNeU K) (op_neU hr.units) (pe_ix (r := rIx K) ix_seq (pv 0) (pv 2) (fun _ _ => rfl)) (pe_ix (r := rIx K) ix_seq (pv 1) (pv 2) (fun _ _ => rfl)) (nomark _))))) (pss_one (ps_ret pe_bl)) pss_nil)))))
 (pss_one (ps_ret pe_bl)))), run_def (E := E) rfl (fun W0 => ?_) h⟩
    exact (vs_seq (vs_if (vb_or (vb_not (vb_tru (b := false) (vt_isi (n := "tuple") (b1 := false) (vt_look 0)))) (vb_test (b := false) (vt_opS (b1 := false) (b2 := false) ros_ne (vt_cbS (b1 := false) rcs_len (va_cons (vt_look 0) va_nil)) (vt_cbS (b1 := false) rcs_len (va_cons (vt_look 1) va_nil))))) (vs_ret vt_bl) vs_next)
 (vs_seq (vs_for (vi_rg1 (b := false) (va_cons (vt_cbS (b1 := false) rcs_len (va_cons (vt_look 1) va_nil)) va_nil)) (vg_name 2) (vs_if (vb_tru (b := false) (vt_isi (n := "str") (b1 := false) (vt_ixv (i := 1) (b2 := false) (vt_look 2)))) (vs_if (vb_or (vb_not (vb_tru (b := false) (vt_isi (n := "str") (b1 := false) (vt_ixv (i := 0) (b2 := false) (vt_look 2))))) (vb_test (b := false) (vt_opS (b1 := false) (b2 := false) ros_ne (vt_ixv (i := 0) (b2 := false) (vt_look 2)) (vt_ixv (i := 1) (b2 := false) (vt_look 2))))) (vs_ret vt_bl) vs_next) (vs_if (vb_or (vb_not (vb_tru (b := false) (vt_call (va_cons (vt_ixv (i := 0) (b2 := false) (vt_look 2)) va_nil)))) (vb_test (b := false) (vt_opS (b1 := false) (b2 := false) ros_ne (vt_ixv (i := 0) (b2 := false) (vt_look 2)) (vt_ixv (i := 1) (b2 := false) (vt_look 2))))) (vs_ret vt_bl) vs_next)))
 (vs_ret vt_bl)))), hm, F.kp, b⟩

theorem ok__law_kept (T : Txt K mg A) (c__law_side_alike : CalX P w K mg base CX0 2 "_law_side_alike" (spP K (m__law_side_alike A))) (c__law_whole : CalX P w K mg base CX0 1 "_law_whole" (spP K (m__law_whole A))) {f : Addr} {fd : FuncData} (F : Fun K "_law_kept" "_law_kept" s__law_kept f fd) (hm : mg "_law_kept" = some (.ref f)) (b : Binds K fd ["grammar", "alphabet", "variables", "rules"] []) :
    CalX P w K mg base CX0 3 "_law_kept" (spP K (m__law_kept A)) :=
  ⟨f, fd, ["grammar", "alphabet", "variables", "rules"], F.ok sc__law_kept (spP_len fun ds r h => (mOf_len h).1) (fun cdv A' outer s H vs Q E hr h => by
    refine ⟨_, (pss_cons (ps_if (PW.pt (pw_or (pt_not (pt_truthK (K := K) rfl (pe_callB (r := rIsC A.C_Grammar) (call_isCU T.ic_Grammar) (by rfl) T.b_isinstance (by decide +kernel) (pa_cons (pv 0) (pa_cons (pe_glob (v := .ref A.C_Grammar) (by rfl) T.g_Grammar rfl) pa_nil))) (fun _ => rfl))) (pw_or (pt_not (pt_truthK (K := K) rfl (pe_callB (r := rIsi K) call_isi (by rfl) T.b_isinstance (by decide +kernel) (pa_cons (pe_fldK (K := K) rfl (pv 0) rfl) (pa_cons (pe_bltn (v := .ty "str") (u := .type "str") (by rfl) T.b_str (by decide +kernel) rfl) pa_nil))) (fun _ => rfl))) (pw_or1 (pt_cmpR (r := rNeU K) (op_neU hr.units) (pe_fldK (K := K) rfl (pv 0) rfl) (pv 1) (nomark _)))))) (pss_one (ps_ret pe_bl)) pss_nil)
 (pss_cons (ps_if (PW.pt (pw_or (pt_not (pt_truthK (K := K) rfl (pe_cx c__law_whole hr (by decide) pass0 (by rfl) (pa_cons (pe_fldK (K := K) rfl (pv 0) rfl) pa_nil)) (fun _ => rfl))) (pw_or1 (pt_cmpR (r := rNeU K) (op_neU hr.units) (pe_fldK (K := K) rfl (pv 0) rfl) (pv 2) (nomark _))))) (pss_one (ps_ret pe_bl)) pss_nil)
 (pss_cons (ps_if (PW.pt (pw_or (pt_not (pt_truthK (K := K) rfl (pe_callB (r := rIsi K) call_isi (by rfl) T.b_isinstance (by decide +kernel) (pa_cons (pe_fldK (K := K) rfl (pv 0) rfl) (pa_cons (pe_bltn (v := .ty "tuple") (u := .type "tuple") (by rfl) T.b_tuple (by decide +kernel) rfl) pa_nil))) (fun _ => rfl))) (pw_or1 (pt_cmpR (r := rNeU K) (op_neU hr.units) (pe_callB (r := rLenU K) call_lenU (by rfl) T.b_len PySem.boot_len (pa_cons (pe_fldK (K := K) rfl (pv 0) rfl) pa_nil)) (pe_callB (r := rLenU K) call_lenU (by rfl) T.b_len PySem.boot_len (pa_cons (pv 3) pa_nil)) (nomark _))))) (pss_one (ps_ret pe_bl)) pss_nil)
 (pss_cons (ps_for PassesOwn.never rfl (pi_range1 (by rfl) T.b_range (pa_cons (pe_callB (r := rLenU K) call_lenU (by rfl) T.b_len PySem.boot_len (pa_cons (pv 3) pa_nil)) pa_nil)) (pg_name (i := 4) sc__law_kept.nd rfl (Or.inl rfl)) (pss_cons (ps_set (i := 5) sc__law_kept.nd rfl (Or.inl rfl) (pe_ix (r := rIx K) ix_seq (pe_fldK (K := K) rfl (pv 0) rfl) (pv 4) (fun _ _ => rfl)))
 (pss_cons (ps_if (PW.pt (pw_or (pt_not (pt_truthK (K := K) rfl (pe_callB (r := rIsi K) call_isi (by rfl) T.b_isinstance (by decide +kernel) (pa_cons (pv 5) (pa_cons (pe_bltn (v := .ty "tuple") (u := .type "tuple") (by rfl) T.b_tuple (by decide +kernel) rfl) pa_nil))) (fun _ => rfl))) (pw_or1 (pt_cmpR (r := rNeU K) (op_neU hr.units) (pe_callB (r := rLenU K) call_lenU (by rfl) T.b_len PySem.boot_len (pa_cons (pv 5) pa_nil)) pe_int (nomark _))))) (pss_one (ps_ret pe_bl)) pss_nil)
 (pss_one (ps_if (PW.pt (pw_or (pt_not (pt_truthK (K := K) rfl (pe_cx c__law_side_alike hr (by decide) pass0 (by rfl) (pa_cons (pe_ix (r := rIx K) ix_seq (pv 5) pe_int (fun _ _ => rfl)) (pa_cons (pe_ix (r := rIx K) ix_seq (pe_ix (r := rIx K) ix_seq (pv 3) (pv 4) (fun _ _ => rfl)) pe_int (fun _ _ => rfl)) pa_nil))) (fun _ => rfl))) (pw_or1 (pt_not (pt_truthK (K := K) rfl (pe_cx c__law_side_alike hr (by decide) pass0 (by rfl) (pa_cons (pe_ix (r := rIx K) ix_seq (pv 5) pe_int (fun _ _ => rfl)) (pa_cons (pe_ix (r := rIx K) ix_seq (pe_ix (r := rIx K) ix_seq (pv 3) (pv 4) (fun _ _ => rfl)) pe_int (fun _ _ => rfl)) pa_nil))) (fun _ => rfl)))))) (pss_one (ps_ret pe_bl)) pss_nil)))))
 (pss_one (ps_ret pe_bl)))))), run_def (E := E) rfl (fun W0 => ?_) h⟩
    exact (vs_seq (vs_if (vb_or (vb_not (vb_tru (b := false) (vt_isC (b' := false) (vt_look 0)))) (vb_or (vb_not (vb_tru (b := false) (vt_isi (n := "str") (b1 := false) (vt_fld T.c_Grammar T.n_Grammar_alphabet (vt_look 0))))) (vb_test (b := false) (vt_opS (b1 := false) (b2 := false) ros_ne (vt_fld T.c_Grammar T.n_Grammar_alphabet (vt_look 0)) (vt_look 1))))) (vs_ret vt_bl) vs_next)
 (vs_seq (vs_if (vb_or (vb_not (vb_tru (b := false) (vt_call (va_cons (vt_fld T.c_Grammar T.n_Grammar_variables (vt_look 0)) va_nil)))) (vb_test (b := false) (vt_opS (b1 := false) (b2 := false) ros_ne (vt_fld T.c_Grammar T.n_Grammar_variables (vt_look 0)) (vt_look 2)))) (vs_ret vt_bl) vs_next)
 (vs_seq (vs_if (vb_or (vb_not (vb_tru (b := false) (vt_isi (n := "tuple") (b1 := false) (vt_fld T.c_Grammar T.n_Grammar_rules (vt_look 0))))) (vb_test (b := false) (vt_opS (b1 := false) (b2 := false) ros_ne (vt_cbS (b1 := false) rcs_len (va_cons (vt_fld T.c_Grammar T.n_Grammar_rules (vt_look 0)) va_nil)) (vt_cbS (b1 := false) rcs_len (va_cons (vt_look 3) va_nil))))) (vs_ret vt_bl) vs_next)
 (vs_seq (vs_for (vi_rg1 (b := false) (va_cons (vt_cbS (b1 := false) rcs_len (va_cons (vt_look 3) va_nil)) va_nil)) (vg_name 4) (vs_seq (vs_asg (vt_op ro_ix (vt_fld T.c_Grammar T.n_Grammar_rules (vt_var 0)) (vt_var 4)) (vg_name 5))
 (vs_seq (vs_if (vb_or (vb_not (vb_tru (b := false) (vt_isi (n := "tuple") (b1 := false) (vt_look 5)))) (vb_test (b := false) (vt_opS (b1 := false) (b2 := false) ros_ne (vt_cbS (b1 := false) rcs_len (va_cons (vt_look 5) va_nil)) vt_int))) (vs_ret vt_bl) vs_next)
 (vs_if (vb_or (vb_not (vb_tru (b := false) (vt_call (va_cons (vt_ixv (i := 5) (b2 := false) vt_int) (va_cons (vt_op ro_ix (vt_ixv (i := 3) (b2 := false) (vt_look 4)) vt_int) va_nil))))) (vb_not (vb_tru (b := false) (vt_call (va_cons (vt_ixv (i := 5) (b2 := false) vt_int) (va_cons (vt_op ro_ix (vt_ixv (i := 3) (b2 := false) (vt_look 4)) vt_int) va_nil)))))) (vs_ret vt_bl) vs_next))))
 (vs_ret vt_bl)))))), hm, F.kp, b⟩

theorem ok__law_parsed (T : Txt K mg A) (c_parse_grammar : CalX P w K mg base (L2.CX P w) 6 "parse_grammar" (spP K (m_parse_grammar A))) {f : Addr} {fd : FuncData} (F : Fun K "_law_parsed" "_law_parsed" s__law_parsed f fd) (hm : mg "_law_parsed" = some (.ref f)) (b : Binds K fd ["string"] []) :
    CalX P w K mg base CX0 7 "_law_parsed" (spP K (m__law_parsed A)) :=
  ⟨f, fd, ["string"], F.ok sc__law_parsed (spP_len fun ds r h => (mOf_len h).1) (fun cdv A' outer s H vs Q E hr h => by
    refine ⟨_, (pss_one (ps_tryG (K := K) (i := 1) (Wout := fun _ _ _ _ => False) rfl rfl rfl sc__law_parsed.nd rfl rfl ⟨rfl, by decide, Or.inl T.g_LeashError⟩ takes0 (fun W pn xe tk _ => (pss_one (ps_ret (pe_tup (pa_cons pe_str (pa_cons (pe_csx c_parse_grammar hr (by decide) (fun σ => passAt tk σ) (by rfl) (pa_cons (pv 0) pa_nil)) pa_nil)))))) (fun a oe cls d pn hz hf => (pss_cons (ps_set (i := 2) sc__law_parsed.nd rfl (Or.inl rfl) (pe_lst (pa_cons (pe_callB (r := rIsX K A.C_BadLine a cls d) (call_isX T.y_BadLine hz hf) (by rfl) T.b_isinstance (by decide +kernel) (pa_cons (pv 1) (pa_cons (pe_glob (v := .ref A.C_BadAlphabet) (by rfl) T.g_BadAlphabet rfl) pa_nil))) (pa_cons (pe_callB (r := rIsX K A.C_BadLine a cls d) (call_isX T.y_BadLine hz hf) (by rfl) T.b_isinstance (by decide +kernel) (pa_cons (pv 1) (pa_cons (pe_glob (v := .ref A.C_BadVariables) (by rfl) T.g_BadVariables rfl) pa_nil))) (pa_cons (pe_callB (r := rIsX K A.C_BadLine a cls d) (call_isX T.y_BadLine hz hf) (by rfl) T.b_isinstance (by decide +kernel) (pa_cons (pv 1) (pa_cons (pe_glob (v := .ref A.C_BadRule) (by rfl) T.g_BadRule rfl) pa_nil))) (pa_cons (pe_callB (r := rIsX K A.C_BadLine a cls d) (call_isX T.y_BadLine hz hf) (by rfl) T.b_isinstance (by decide +kernel) (pa_cons (pv 1) (pa_cons (pe_glob (v := .ref A.C_BadText) (by rfl) T.g_BadText rfl) pa_nil))) pa_nil))))))
 (pss_cons (ps_set (i := 2) sc__law_parsed.nd rfl (Or.inl rfl) (pe_op (r := rAddU K) op_addU (pv 2) (pe_lst (pa_cons (pe_callB (r := rIsX K A.C_BadLine a cls d) (call_isX T.y_BadLine hz hf) (by rfl) T.b_isinstance (by decide +kernel) (pa_cons (pv 1) (pa_cons (pe_glob (v := .ref A.C_BadForm) (by rfl) T.g_BadForm rfl) pa_nil))) (pa_cons (pe_callB (r := rIsX K A.C_BadLine a cls d) (call_isX T.y_BadLine hz hf) (by rfl) T.b_isinstance (by decide +kernel) (pa_cons (pv 1) (pa_cons (pe_glob (v := .ref A.C_BadRow) (by rfl) T.g_BadRow rfl) pa_nil))) pa_nil)))))
 (pss_cons (ps_if (PW.pt (pw_or (pt_not (pt_truthK (K := K) rfl (pe_callB (r := rIsX K A.C_BadLine a cls d) (call_isX T.y_BadLine hz hf) (by rfl) T.b_isinstance (by decide +kernel) (pa_cons (pv 1) (pa_cons (pe_glob (v := .ref A.C_BadLine) (by rfl) T.g_BadLine rfl) pa_nil))) (fun _ => rfl))) (pw_or (pt_not (pt_truthK (K := K) rfl (pe_callB (r := rIsX K A.C_BadLine a cls d) (call_isX T.y_BadLine hz hf) (by rfl) T.b_isinstance (by decide +kernel) (pa_cons (pv 1) (pa_cons (pe_bltn (v := .ty "ValueError") (u := .type "ValueError") (by rfl) T.b_ValueError (by decide +kernel) rfl) pa_nil))) (fun _ => rfl))) (pw_or1 (pt_cmpR op_gtU (pe_cntK (K := K) rfl (pv 2) (pa_cons pe_bl pa_nil)) pe_int (nomark _)))))) (pss_one (ps_ret (pe_tup (pa_cons pe_str (pa_cons pe_int pa_nil))))) pss_nil)
 (pss_one (ps_ret (pe_tup (pa_cons pe_str (pa_cons (pe_xf T.x_BadLine T.xn_BadLine_index hz hf (pv 1)) pa_nil))))))))))), run_def (E := E) rfl (fun W0 => ?_) h⟩
    exact (vs_tryG T.x_BadLine_LeashError (fun Wx => (y_ret (vtx_tup (vax_cons (vtx_val vt_str) (vax_cons (vtx_callS (va_cons (vt_var 0) va_nil)) vax_nil))))) (fun a d => (vs_seq (vs_asg (vt_vn (vn_lst (va_cons (vt_isX (i := 1) (fun u h => h) T.q_BadLine_BadAlphabet) (va_cons (vt_isX (i := 1) (fun u h => h) T.q_BadLine_BadVariables) (va_cons (vt_isX (i := 1) (fun u h => h) T.q_BadLine_BadRule) (va_cons (vt_isX (i := 1) (fun u h => h) T.q_BadLine_BadText) va_nil)))))) (vg_name 2))
 (vs_seq (vs_asg (vt_op ro_add (vt_var 2) (vt_vn (vn_lst (va_cons (vt_isX (i := 1) (fun u h => h) T.q_BadLine_BadForm) (va_cons (vt_isX (i := 1) (fun u h => h) T.q_BadLine_BadRow) va_nil))))) (vg_name 2))
 (vs_seq (vs_if (vb_or (vb_not (vb_tru (b := false) (vt_isX (i := 1) (fun u h => h) T.q_BadLine_BadLine))) (vb_or (vb_not (vb_tru (b := false) (vt_isX (i := 1) (fun u h => h) T.q_BadLine_ValueError))) (vb_test (b := false) (vt_opS (b1 := false) (b2 := false) ros_cmp (vt_cnt (b1 := false) (b2 := false) (vt_look 2) vt_bl) vt_int)))) (vs_ret (vt_tup (va_cons vt_str (va_cons vt_int va_nil)))) vs_next)
 (vs_ret (vt_tup (va_cons vt_str (va_cons vt_xf va_nil)))))))))), hm, F.kp, b⟩

theorem ok__law_formatted (T : Txt K mg A) (c_format_grammar : CalX P w K mg base CX0 2 "format_grammar" (spP K (m_format_grammar A))) {f : Addr} {fd : FuncData} (F : Fun K "_law_formatted" "_law_formatted" s__law_formatted f fd) (hm : mg "_law_formatted" = some (.ref f)) (b : Binds K fd ["grammar", "string"] []) :
    CalX P w K mg base CX0 3 "_law_formatted" (spP K (m__law_formatted A)) :=
  ⟨f, fd, ["grammar", "string"], F.ok sc__law_formatted (spP_len fun ds r h => (mOf_len h).1) (fun cdv A' outer s H vs Q E hr h => by
    refine ⟨_, (pss_cons (ps_set (i := 2) sc__law_formatted.nd rfl (Or.inl rfl) (pe_cx c_format_grammar hr (by decide) pass0 (by rfl) (pa_cons (pv 0) pa_nil)))
 (pss_one (ps_ret (pe_and (pe_callB (r := rIsi K) call_isi (by rfl) T.b_isinstance (by decide +kernel) (pa_cons (pv 2) (pa_cons (pe_bltn (v := .ty "str") (u := .type "str") (by rfl) T.b_str (by decide +kernel) rfl) pa_nil))) (pe_one (pe_cmpR (r := rEqU K) (op_eqU hr.units) (pv 2) (pv 1) (nomark _))))))), run_def (E := E) rfl (fun W0 => ?_) h⟩
    exact (vs_seq (vs_asg (vt_call (va_cons (vt_var 0) va_nil)) (vg_name 2))
 (vs_ret (vt_andV (b1 := false) (b2 := false) (vt_isi (n := "str") (b1 := false) (vt_look 2)) (vt_opS (b1 := false) (b2 := false) ros_eq (vt_look 2) (vt_look 1)))))), hm, F.kp, b⟩

theorem ok__law_read_alike (T : Txt K mg A) (c_Grammar : MakX P w K mg base CX0 4 "Grammar" A.C_Grammar (spI K A.C_Grammar (i_Grammar A))) (c__law_formatted : CalX P w K mg base CX0 3 "_law_formatted" (spP K (m__law_formatted A))) (c__law_kept : CalX P w K mg base CX0 3 "_law_kept" (spP K (m__law_kept A))) (c__law_parsed : CalX P w K mg base CX0 7 "_law_parsed" (spP K (m__law_parsed A))) (c__law_read : CalX P w K mg base CX0 4 "_law_read" (spP K (m__law_read A))) (c__law_whole : CalX P w K mg base CX0 1 "_law_whole" (spP K (m__law_whole A))) (e_Grammar : EqX P w K mg base 1 A.C_Grammar (m_Grammar_eq A)) {f : Addr} {fd : FuncData} (F : Fun K "_law_read_alike" "_law_read_alike" s__law_read_alike f fd) (hm : mg "_law_read_alike" = some (.ref f)) (b : Binds K fd ["string"] []) :
    CalX P w K mg base CX0 8 "_law_read_alike" (spP K (m__law_read_alike A)) :=
  ⟨f, fd, ["string"], F.ok sc__law_read_alike (spP_len fun ds r h => (mOf_len h).1) (fun cdv A' outer s H vs Q E hr h => by
    refine ⟨_, (pss_cons (ps_set (i := 1) sc__law_read_alike.nd rfl (Or.inl rfl) (pe_cx c__law_read hr (by decide) pass0 (by rfl) (pa_cons (pv 0) pa_nil)))
 (pss_cons (ps_set (i := 2) sc__law_read_alike.nd rfl (Or.inl rfl) (pe_cx c__law_parsed hr (by decide) pass0 (by rfl) (pa_cons (pv 0) pa_nil)))
 (pss_cons (ps_if (pt_cmpR (r := rNeU K) (op_neU hr.units) (pe_ix (r := rIx K) ix_seq (pv 2) pe_int (fun _ _ => rfl)) (pe_ix (r := rIx K) ix_seq (pv 1) pe_int (fun _ _ => rfl)) (nomark _)) (pss_one (ps_ret pe_bl)) pss_nil)
 (pss_cons (ps_if (pt_cmpR (r := rEqU K) (op_eqU hr.units) (pe_ix (r := rIx K) ix_seq (pv 1) pe_int (fun _ _ => rfl)) pe_str (nomark _)) (pss_one (ps_ret (pe_and (pe_cx c__law_whole hr (by decide) pass0 (by rfl) (pa_cons (pe_ix (r := rIx K) ix_seq (pv 2) pe_int (fun _ _ => rfl)) pa_nil)) (pe_one (pe_cmpR (r := rEqU K) (op_eqU hr.units) (pe_ix (r := rIx K) ix_seq (pv 2) pe_int (fun _ _ => rfl)) (pe_ix (r := rIx K) ix_seq (pv 1) pe_int (fun _ _ => rfl)) (nomark _)))))) pss_nil)
 (pss_cons (ps_if (pt_not (pt_truthK (K := K) rfl (pe_cx c__law_kept hr (by decide) pass0 (by rfl) (pa_cons (pe_ix (r := rIx K) ix_seq (pv 2) pe_int (fun _ _ => rfl)) (pa_cons (pe_ix (r := rIx K) ix_seq (pv 1) pe_int (fun _ _ => rfl)) (pa_cons (pe_ix (r := rIx K) ix_seq (pv 1) pe_int (fun _ _ => rfl)) (pa_cons (pe_ix (r := rIx K) ix_seq (pv 1) pe_int (fun _ _ => rfl)) pa_nil))))) (fun _ => rfl))) (pss_one (ps_ret pe_bl)) pss_nil)
 (pss_cons (ps_set (i := 3) sc__law_read_alike.nd rfl (Or.inl rfl) (pe_cmpR (r := rEqG (DIns A.C_Grammar (REq K (m_Grammar_eq A)))) (op_eqO e_Grammar hr (by decide)) (pe_ix (r := rIx K) ix_seq (pv 2) pe_int (fun _ _ => rfl)) (pe_mx c_Grammar hr (by decide) pass0 (by rfl) (pa_cons (pe_ix (r := rIx K) ix_seq (pv 1) pe_int (fun _ _ => rfl)) (pa_cons (pe_ix (r := rIx K) ix_seq (pv 1) pe_int (fun _ _ => rfl)) (pa_cons (pe_callTy (r := rListU K) call_listU (by rfl) T.b_list PyProof.Rows.boot_list (pa_cons (pe_ix (r := rIx K) ix_seq (pv 1) pe_int (fun _ _ => rfl)) pa_nil)) pa_nil)))) (nomark _)))
 (pss_one (ps_ret (pe_and (pe_callB (r := rIsi K) call_isi (by rfl) T.b_isinstance (by decide +kernel) (pa_cons (pv 3) (pa_cons (pe_bltn (v := .ty "bool") (u := .type "bool") (by rfl) T.b_bool (by decide +kernel) rfl) pa_nil))) (pe_and (pv 3) (pe_one (pe_cx c__law_formatted hr (by decide) pass0 (by rfl) (pa_cons (pe_ix (r := rIx K) ix_seq (pv 2) pe_int (fun _ _ => rfl)) (pa_cons (pv 0) pa_nil)))))))))))))), run_def (E := E) rfl (fun W0 => ?_) h⟩
    exact (vs_seq (vs_asg (vt_call (va_cons (vt_var 0) va_nil)) (vg_name 1))
 (vs_seq (vs_asg (vt_call (va_cons (vt_var 0) va_nil)) (vg_name 2))
 (vs_seq (vs_if (vb_test (b := false) (vt_opS (b1 := false) (b2 := false) ros_ne (vt_ixv (i := 2) (b2 := false) vt_int) (vt_ixv (i := 1) (b2 := false) vt_int))) (vs_ret vt_bl) vs_next)
 (vs_seq (vs_if (vb_test (b := false) (vt_opS (b1 := false) (b2 := false) ros_eq (vt_ixv (i := 1) (b2 := false) vt_int) vt_str)) (vs_ret (vt_andV (b1 := false) (b2 := false) (vt_call (va_cons (vt_ixv (i := 2) (b2 := false) vt_int) va_nil)) (vt_opS (b1 := false) (b2 := false) ros_eq (vt_ixv (i := 2) (b2 := false) vt_int) (vt_ixv (i := 1) (b2 := false) vt_int)))) vs_next)
 (vs_seq (vs_if (vb_not (vb_tru (b := false) (vt_call (va_cons (vt_ixv (i := 2) (b2 := false) vt_int) (va_cons (vt_ixv (i := 1) (b2 := false) vt_int) (va_cons (vt_ixv (i := 1) (b2 := false) vt_int) (va_cons (vt_ixv (i := 1) (b2 := false) vt_int) va_nil))))))) (vs_ret vt_bl) vs_next)
 (vs_seq (vs_asg (vt_eqO (b1 := false) (b2 := false) (vt_ixv (i := 2) (b2 := false) vt_int) (vt_make (va_cons (vt_ixv (i := 1) (b2 := false) vt_int) (va_cons (vt_ixv (i := 1) (b2 := false) vt_int) (va_cons (vt_vn (vn_list (vt_ixv (i := 1) (b2 := false) vt_int))) va_nil))))) (vg_name 3))
 (vs_ret (vt_andV (b1 := false) (b2 := false) (vt_isi (n := "bool") (b1 := false) (vt_look 3)) (vt_andV (b1 := false) (b2 := false) (vt_look 3) (vt_call (va_cons (vt_ixv (i := 2) (b2 := false) vt_int) (va_cons (vt_look 0) va_nil))))))))))))), hm, F.kp, b⟩

theorem ok_law (T : Txt K mg A) (c_Grammar : MakX P w K mg base CX0 4 "Grammar" A.C_Grammar (spI K A.C_Grammar (i_Grammar A))) (c__law_alphabet : CalX P w K mg base CX0 2 "_law_alphabet" (spP K (m__law_alphabet A))) (c__law_cell : CalX P w K mg base CX0 1 "_law_cell" (spP K (m__law_cell A))) (c__law_changed : CalX P w K mg base CX0 2 "_law_changed" (spP K (m__law_changed A))) (c__law_digits : CalX P w K mg base CX0 1 "_law_digits" (spP K (m__law_digits A))) (c__law_formatted : CalX P w K mg base CX0 3 "_law_formatted" (spP K (m__law_formatted A))) (c__law_kept : CalX P w K mg base CX0 3 "_law_kept" (spP K (m__law_kept A))) (c__law_parsed : CalX P w K mg base CX0 7 "_law_parsed" (spP K (m__law_parsed A))) (c__law_read : CalX P w K mg base CX0 4 "_law_read" (spP K (m__law_read A))) (c__law_read_alike : CalX P w K mg base CX0 8 "_law_read_alike" (spP K (m__law_read_alike A))) (c__law_rule : CalX P w K mg base CX0 3 "_law_rule" (spP K (m__law_rule A))) (c__law_written : CalX P w K mg base CX0 2 "_law_written" (spP K (m__law_written A))) {f : Addr} {fd : FuncData} (F : Fun K "law" "law" s_law f fd) (hm : mg "law" = some (.ref f)) (b : Binds K fd ["script"] []) :
    CalX P w K mg base CX0 9 "law" (spP K (m_law A)) :=
  ⟨f, fd, ["script"], F.ok sc_law (spP_len fun ds r h => (mOf_len h).1) (fun cdv A' outer s H vs Q E hr h => by
    refine ⟨_, (pss_cons (ps_set (i := 1) sc_law.nd rfl (Or.inr rfl) (pe_cx c__law_alphabet hr (by decide) pass0 (by rfl) (pa_cons (pe_cx c__law_cell hr (by decide) pass0 (by rfl) (pa_cons (pv 0) (pa_cons pe_int pa_nil))) pa_nil)))
 (pss_cons (ps_set (i := 2) sc_law.nd rfl (Or.inl rfl) (pe_cx c__law_digits hr (by decide) pass0 (by rfl) (pa_cons (pe_cx c__law_cell hr (by decide) pass0 (by rfl) (pa_cons (pv 0) (pa_cons pe_int pa_nil))) (pa_cons (pe_lst (pa_cons pe_int (pa_cons pe_int (pa_cons pe_int (pa_cons pe_int (pa_cons pe_int (pa_cons pe_int pa_nil))))))) pa_nil))))
 (pss_cons (ps_set (i := 3) sc_law.nd rfl (Or.inr rfl) (pe_op (r := rAddU K) op_addU pe_int (pe_ix (r := rIx K) ix_seq (pv 2) pe_int (fun _ _ => rfl))))
 (pss_cons (ps_if (PW.pt (pw_or (pt_cmpR (r := rEqU K) (op_eqU hr.units) (pe_ix (r := rIx K) ix_seq (pv 2) pe_int (fun _ _ => rfl)) pe_int (nomark _)) (pw_or1 (pt_cmpR (r := rEqU K) (op_eqU hr.units) (pe_ix (r := rIx K) ix_seq (pv 2) pe_int (fun _ _ => rfl)) pe_int (nomark _))))) (pss_one (ps_set (i := 3) sc_law.nd rfl (Or.inr rfl) (pe_op (r := rAddU K) op_addU pe_int (pe_ix (r := rIx K) ix_seq (pv 2) pe_int (fun _ _ => rfl))))) pss_nil)
 (pss_cons (ps_if (pt_cmpR (r := rEqU K) (op_eqU hr.units) (pe_ix (r := rIx K) ix_seq (pv 2) pe_int (fun _ _ => rfl)) pe_int (nomark _)) (pss_one (ps_set (i := 3) sc_law.nd rfl (Or.inr rfl) (pe_op (r := rAddU K) op_addU pe_int (pe_ix (r := rIx K) ix_seq (pv 2) pe_int (fun _ _ => rfl))))) pss_nil)
 (pss_cons (ps_if (pt_cmpR (r := rEqU K) (op_eqU hr.units) (pe_ix (r := rIx K) ix_seq (pv 2) pe_int (fun _ _ => rfl)) pe_int (nomark _)) (pss_one (ps_set (i := 3) sc_law.nd rfl (Or.inr rfl) (pe_op op_sub pe_int (pe_ix (r := rIx K) ix_seq (pv 2) pe_int (fun _ _ => rfl))))) pss_nil)
 (pss_cons (ps_setLc (i := 4) (own := [("k", 7)]) rfl sc_law.nd rfl rfl (sw_true rfl rfl rfl (by decide +kernel)) (pi_range1 (by rfl) T.b_range (pa_cons (pe_ix (r := rIx K) ix_seq (pv 2) pe_int (fun _ _ => rfl)) pa_nil)) (blkOk_by (N := N_law) (sc := defScope s_law) (by decide +kernel)) (fun _ _ _ _ _ => (pg_name (i := 7) sc_law.nd rfl (Or.inl rfl))) (fun _ _ _ _ _ => pts_nil) (fun _ _ _ _ _ => (pe_cx c__law_rule hr (by decide) pass0 (by rfl) (pa_cons (pe_cx c__law_cell hr (by decide) pass0 (by rfl) (pa_cons (pv 0) (pa_cons (pe_op (r := rAddU K) op_addU pe_int (pv 7)) pa_nil))) (pa_cons (pv 1) (pa_cons (pv 3) pa_nil))))))
 (pss_cons (ps_if (pt_cmpR (r := rEqU K) (op_eqU hr.units) (pe_ix (r := rIx K) ix_seq (pv 2) pe_int (fun _ _ => rfl)) pe_int (nomark _)) (pss_one (ps_set (i := 4) sc_law.nd rfl (Or.inl rfl) (pe_op op_mulU (pv 4) pe_int))) pss_nil)
 (pss_cons (ps_set (i := 5) sc_law.nd rfl (Or.inl rfl) (pe_cx c__law_written hr (by decide) pass0 (by rfl) (pa_cons (pv 1) (pa_cons (pv 3) (pa_cons (pv 4) pa_nil)))))
 (pss_cons (ps_set (i := 6) sc_law.nd rfl (Or.inl rfl) (pe_mx c_Grammar hr (by decide) pass0 (by rfl) (pa_cons (pv 1) (pa_cons (pv 3) (pa_cons (pe_lc (own := [("item", 12)]) rfl sc_law.nd (pi_seqU (pv 4)) (blkOk_by (N := N_law) (sc := defScope s_law) (by decide +kernel)) (fun _ _ _ _ _ => (pg_name (i := 12) sc_law.nd rfl (Or.inl rfl))) (fun _ _ _ _ _ => pts_nil) (fun _ _ _ _ _ => (pe_lst (pa_cons (pe_callTy (r := rListU K) call_listU (by rfl) T.b_list PyProof.Rows.boot_list (pa_cons (pe_ix (r := rIx K) ix_seq (pv 12) pe_int (fun _ _ => rfl)) pa_nil)) (pa_cons (pe_callTy (r := rListU K) call_listU (by rfl) T.b_list PyProof.Rows.boot_list (pa_cons (pe_ix (r := rIx K) ix_seq (pv 12) pe_int (fun _ _ => rfl)) pa_nil)) pa_nil))))) pa_nil)))))
 (pss_cons (ps_if (PW.pt (pw_or (pt_not (pt_truthK (K := K) rfl (pe_cx c__law_formatted hr (by decide) pass0 (by rfl) (pa_cons (pv 6) (pa_cons (pv 5) pa_nil))) (fun _ => rfl))) (pw_or1 (pt_cmpR (r := rNeU K) (op_neU hr.units) (pe_ix (r := rIx K) ix_seq (pe_cx c__law_read hr (by decide) pass0 (by rfl) (pa_cons (pv 5) pa_nil)) pe_int (fun _ _ => rfl)) pe_str (nomark _))))) (pss_one (ps_ret pe_bl)) pss_nil)
 (pss_cons (ps_if (PW.pt (pw_or (pt_not (pt_truthK (K := K) rfl (pe_cx c__law_read_alike hr (by decide) pass0 (by rfl) (pa_cons (pv 5) pa_nil)) (fun _ => rfl))) (pw_or1 (pt_not (pt_truthK (K := K) rfl (pe_cx c__law_read_alike hr (by decide) pass0 (by rfl) (pa_cons pe_str pa_nil)) (fun _ => rfl)))))) (pss_one (ps_ret pe_bl)) pss_nil)
 (pss_cons (ps_for PassesOwn.never rfl (pi_range1 (by rfl) T.b_range (pa_cons pe_int pa_nil)) (pg_name (i := 7) sc_law.nd rfl (Or.inl rfl)) (pss_cons (ps_set (i := 8) sc_law.nd rfl (Or.inl rfl) (pe_cx c__law_digits hr (by decide) pass0 (by rfl) (pa_cons (pe_cx c__law_cell hr (by decide) pass0 (by rfl) (pa_cons (pv 0) (pa_cons (pe_op (r := rAddU K) op_addU pe_int (pv 7)) pa_nil))) (pa_cons (pe_lst (pa_cons pe_int (pa_cons pe_int (pa_cons pe_int (pa_cons pe_int (pa_cons pe_int pa_nil)))))) pa_nil))))
 (pss_one (ps_if (pt_not (pt_truthK (K := K) rfl (pe_cx c__law_read_alike hr (by decide) pass0 (by rfl) (pa_cons (pe_cx c__law_changed hr (by decide) pass0 (by rfl) (pa_cons (pv 5) (pa_cons (pv 8) (pa_cons (pv 1) (pa_cons (pv 3) pa_nil))))) pa_nil)) (fun _ => rfl))) (pss_one (ps_ret pe_bl)) pss_nil))))
 (pss_cons (ps_for PassesOwn.never rfl (pi_seqU (pe_lst (pa_cons (pe_op (r := rAddU K) op_addU (pe_op (r := rAddU K) op_addU pe_str (pv 1)) pe_str) (pa_cons (pe_op (r := rAddU K) op_addU (pe_op (r := rAddU K) op_addU pe_str (pv 1)) pe_str) (pa_cons pe_str (pa_cons pe_str (pa_cons pe_str pa_nil))))))) (pg_name (i := 9) sc_law.nd rfl (Or.inl rfl)) (pss_one (ps_if (PW.pt (pw_or (pt_not (pt_truthK (K := K) rfl (pe_cx c__law_read_alike hr (by decide) pass0 (by rfl) (pa_cons (pv 9) pa_nil)) (fun _ => rfl))) (pw_or (pt_not (pt_truthK (K := K) rfl (pe_cx c__law_read_alike hr (by decide) pass0 (by rfl) (pa_cons (pe_op (r := rAddU K) op_addU (pv 9) (pv 5)) pa_nil)) (fun _ => rfl))) (pw_or1 (pt_not (pt_truthK (K := K) rfl (pe_cx c__law_read_alike hr (by decide) pass0 (by rfl) (pa_cons (pe_op (r := rAddU K) op_addU (pv 5) (pe_slice (r := rCutU K) sl_U (pv 9) po_none (po_some pe_int))) pa_nil)) (fun _ => rfl))))))) (pss_one (ps_ret pe_bl)) pss_nil)))
 (pss_cons (ps_for PassesOwn.never rfl (pi_seqU (pe_lst (pa_cons pe_str (pa_cons pe_str (pa_cons pe_str (pa_cons pe_str (pa_cons pe_str (pa_cons pe_str (pa_cons pe_str (pa_cons pe_str (pa_cons pe_str (pa_cons pe_str (pa_cons pe_str pa_nil))))))))))))) (pg_name (i := 10) sc_law.nd rfl (Or.inl rfl)) (pss_one (ps_if (PW.pt (pw_or (pt_not (pt_truthK (K := K) rfl (pe_cx c__law_read_alike hr (by decide) pass0 (by rfl) (pa_cons (pe_op (r := rAddU K) op_addU (pe_op (r := rAddU K) op_addU (pv 5) pe_str) (pv 10)) pa_nil)) (fun _ => rfl))) (pw_or1 (pt_not (pt_truthK (K := K) rfl (pe_cx c__law_read_alike hr (by decide) pass0 (by rfl) (pa_cons (pe_op (r := rAddU K) op_addU (pe_op (r := rAddU K) op_addU (pe_op (r := rAddU K) op_addU (pe_op (r := rAddU K) op_addU (pv 5) pe_str) (pv 10)) pe_str) (pe_ix (r := rIx K) ix_seq (pv 1) pe_int (fun _ _ => rfl))) pa_nil)) (fun _ => rfl)))))) (pss_one (ps_ret pe_bl)) pss_nil)))
 (pss_cons (ps_set (i := 11) sc_law.nd rfl (Or.inl rfl) (pe_cx c__law_parsed hr (by decide) pass0 (by rfl) (pa_cons (pv 5) pa_nil)))
 (pss_one (ps_ret (pe_and (pe_cmpR (r := rEqU K) (op_eqU hr.units) (pe_ix (r := rIx K) ix_seq (pv 11) pe_int (fun _ _ => rfl)) pe_str (nomark _)) (pe_and (pe_cx c__law_kept hr (by decide) pass0 (by rfl) (pa_cons (pe_ix (r := rIx K) ix_seq (pv 11) pe_int (fun _ _ => rfl)) (pa_cons (pv 1) (pa_cons (pv 3) (pa_cons (pv 4) pa_nil))))) (pe_one (pe_cx c__law_formatted hr (by decide) pass0 (by rfl) (pa_cons (pv 6) (pa_cons (pv 5) pa_nil)))))))))))))))))))))))), run_def (E := E) rfl (fun W0 => ?_) h⟩
    exact (vs_seq (vs_asg (vt_call (va_cons (vt_call (va_cons (vt_var 0) (va_cons vt_int va_nil))) va_nil)) (vg_name 1))
 (vs_seq (vs_asg (vt_call (va_cons (vt_call (va_cons (vt_var 0) (va_cons vt_int va_nil))) (va_cons (vt_vn (vn_lst (va_cons vt_int (va_cons vt_int (va_cons vt_int (va_cons vt_int (va_cons vt_int (va_cons vt_int va_nil)))))))) va_nil))) (vg_name 2))
 (vs_seq (vs_asg (vt_op ro_add vt_int (vt_ixv (i := 2) (b2 := false) vt_int)) (vg_name 3))
 (vs_seq (vs_if (vb_or (vb_test (b := false) (vt_opS (b1 := false) (b2 := false) ros_eq (vt_ixv (i := 2) (b2 := false) vt_int) vt_int)) (vb_test (b := false) (vt_opS (b1 := false) (b2 := false) ros_eq (vt_ixv (i := 2) (b2 := false) vt_int) vt_int))) (vs_asg (vt_op ro_add vt_int (vt_ixv (i := 2) (b2 := false) vt_int)) (vg_name 3)) vs_next)
 (vs_seq (vs_if (vb_test (b := false) (vt_opS (b1 := false) (b2 := false) ros_eq (vt_ixv (i := 2) (b2 := false) vt_int) vt_int)) (vs_asg (vt_op ro_add vt_int (vt_ixv (i := 2) (b2 := false) vt_int)) (vg_name 3)) vs_next)
 (vs_seq (vs_if (vb_test (b := false) (vt_opS (b1 := false) (b2 := false) ros_eq (vt_ixv (i := 2) (b2 := false) vt_int) vt_int)) (vs_asg (vt_opS (b1 := false) (b2 := false) ros_sub vt_int (vt_ixv (i := 2) (b2 := false) vt_int)) (vg_name 3)) vs_next)
 (vs_seq (vs_asg (vt_vn (vn_lc (vi_rg1 (b := false) (va_cons (vt_ixv (i := 2) (b2 := false) vt_int) va_nil)) (vg_name 7) (by decide) vb_yes (vt_call (va_cons (vt_call (va_cons (vt_var 0) (va_cons (vt_op ro_add vt_int (vt_var 7)) va_nil))) (va_cons (vt_var 1) (va_cons (vt_var 3) va_nil)))))) (vg_name 4))
 (vs_seq (vs_if (vb_test (b := false) (vt_opS (b1 := false) (b2 := false) ros_eq (vt_ixv (i := 2) (b2 := false) vt_int) vt_int)) (vs_asg (vt_op ro_mul (vt_var 4) vt_int) (vg_name 4)) vs_next)
 (vs_seq (vs_asg (vt_call (va_cons (vt_var 1) (va_cons (vt_var 3) (va_cons (vt_var 4) va_nil)))) (vg_name 5))
 (vs_seq (vs_asg (vt_make (va_cons (vt_var 1) (va_cons (vt_var 3) (va_cons (vt_vn (vn_lc (vi_seqU (vt_var 4)) (vg_name 12) (by decide) vb_yes (vt_vn (vn_lst (va_cons (vt_vn (vn_list (vt_ixv (i := 12) (b2 := false) vt_int))) (va_cons (vt_vn (vn_list (vt_ixv (i := 12) (b2 := false) vt_int))) va_nil)))))) va_nil)))) (vg_name 6))
 (vs_seq (vs_if (vb_or (vb_not (vb_tru (b := false) (vt_call (va_cons (vt_look 6) (va_cons (vt_look 5) va_nil))))) (vb_test (b := false) (vt_opS (b1 := false) (b2 := false) ros_ne (vt_op ro_ix (vt_call (va_cons (vt_look 5) va_nil)) vt_int) vt_str))) (vs_ret vt_bl) vs_next)
 (vs_seq (vs_if (vb_or (vb_not (vb_tru (b := false) (vt_call (va_cons (vt_look 5) va_nil)))) (vb_not (vb_tru (b := false) (vt_call (va_cons vt_str va_nil))))) (vs_ret vt_bl) vs_next)
 (vs_seq (vs_for (vi_rg1 (b := false) (va_cons vt_int va_nil)) (vg_name 7) (vs_seq (vs_asg (vt_call (va_cons (vt_call (va_cons (vt_var 0) (va_cons (vt_op ro_add vt_int (vt_var 7)) va_nil))) (va_cons (vt_vn (vn_lst (va_cons vt_int (va_cons vt_int (va_cons vt_int (va_cons vt_int (va_cons vt_int va_nil))))))) va_nil))) (vg_name 8))
 (vs_if (vb_not (vb_tru (b := false) (vt_call (va_cons (vt_call (va_cons (vt_look 5) (va_cons (vt_look 8) (va_cons (vt_look 1) (va_cons (vt_look 3) va_nil))))) va_nil)))) (vs_ret vt_bl) vs_next)))
 (vs_seq (vs_for (vi_seqU (vt_vn (vn_lst (va_cons (vt_op ro_add (vt_op ro_add vt_str (vt_var 1)) vt_str) (va_cons (vt_op ro_add (vt_op ro_add vt_str (vt_var 1)) vt_str) (va_cons vt_str (va_cons vt_str (va_cons vt_str va_nil)))))))) (vg_name 9) (vs_if (vb_or (vb_not (vb_tru (b := false) (vt_call (va_cons (vt_look 9) va_nil)))) (vb_or (vb_not (vb_tru (b := false) (vt_call (va_cons (vt_op ro_add (vt_look 9) (vt_look 5)) va_nil)))) (vb_not (vb_tru (b := false) (vt_call (va_cons (vt_op ro_add (vt_look 5) (vt_cut (vt_look 9) vo_none (vo_some (b := false) vt_int))) va_nil)))))) (vs_ret vt_bl) vs_next))
 (vs_seq (vs_for (vi_seqU (vt_vn (vn_lst (va_cons vt_str (va_cons vt_str (va_cons vt_str (va_cons vt_str (va_cons vt_str (va_cons vt_str (va_cons vt_str (va_cons vt_str (va_cons vt_str (va_cons vt_str (va_cons vt_str va_nil)))))))))))))) (vg_name 10) (vs_if (vb_or (vb_not (vb_tru (b := false) (vt_call (va_cons (vt_op ro_add (vt_op ro_add (vt_look 5) vt_str) (vt_look 10)) va_nil)))) (vb_not (vb_tru (b := false) (vt_call (va_cons (vt_op ro_add (vt_op ro_add (vt_op ro_add (vt_op ro_add (vt_look 5) vt_str) (vt_look 10)) vt_str) (vt_ixv (i := 1) (b2 := false) vt_int)) va_nil))))) (vs_ret vt_bl) vs_next))
 (vs_seq (vs_asg (vt_call (va_cons (vt_var 5) va_nil)) (vg_name 11))
 (vs_ret (vt_andV (b1 := false) (b2 := false) (vt_opS (b1 := false) (b2 := false) ros_eq (vt_ixv (i := 11) (b2 := false) vt_int) vt_str) (vt_andV (b1 := false) (b2 := false) (vt_call (va_cons (vt_ixv (i := 11) (b2 := false) vt_int) (va_cons (vt_look 1) (va_cons (vt_look 3) (va_cons (vt_look 4) va_nil))))) (vt_call (va_cons (vt_look 6) (va_cons (vt_look 5) va_nil))))))))))))))))))))))), hm, F.kp, b⟩

end
end K43
end

section
namespace K43
open PySem PySem.Spec PyProof.Rows L2 VL

abbrev s_x_BadLine : Stmt := inClass (top 4) 0
abbrev N_x_BadLine : List Str := ["self", "index"]
theorem sc_x_BadLine : FnScope N_x_BadLine ["self", "index"] (defScope s_x_BadLine) := ⟨rfl, rfl, rfl, by decide +kernel, rfl, by decide +kernel, by decide +kernel⟩
section
variable {P : Program} {w : World} {K : PySem.W.Frag} {mg : Str → Option Value} {base : Heap} {A : Ad}
theorem ok_x_BadLine (T : Txt K mg A) (O : OexC K A.C_BadLine) {f : Addr} {fd : FuncData} (iC : PySem.W.findIn K (.ref A.C_BadLine) "__init__" = some (some (.ref f))) (tI : PySem.W.typeIn K (.ref f) = some (.type "function")) (F : Fun K "__init__" "BadLine.__init__" s_x_BadLine f fd) (b : Binds K fd ["self", "index"] []) :
    ExcX P w K mg base 1 "BadLine" A.C_BadLine (spX1 A.C_BadLine "index") :=
  ⟨f, fd, ["self", "index"], O, iC, tI, F.ok sc_x_BadLine (fun vs H Q E h => by obtain ⟨a, y, rfl, _⟩ := h; rfl) (fun cdv A' outer s H vs Q E hr h => ⟨_, (pss_one (ps_ost (pv 0) (pv 1) rfl)), x1_run O T.xn_BadLine_index h⟩), b, T.g_BadLine⟩
theorem okF_law (T : Txt K mg A) (c_Grammar : MakX P w K mg base CX0 4 "Grammar" A.C_Grammar (spI K A.C_Grammar (i_Grammar A))) (c__law_alphabet : CalX P w K mg base CX0 2 "_law_alphabet" (spP K (m__law_alphabet A))) (c__law_cell : CalX P w K mg base CX0 1 "_law_cell" (spP K (m__law_cell A))) (c__law_changed : CalX P w K mg base CX0 2 "_law_changed" (spP K (m__law_changed A))) (c__law_digits : CalX P w K mg base CX0 1 "_law_digits" (spP K (m__law_digits A))) (c__law_formatted : CalX P w K mg base CX0 3 "_law_formatted" (spP K (m__law_formatted A))) (c__law_kept : CalX P w K mg base CX0 3 "_law_kept" (spP K (m__law_kept A))) (c__law_parsed : CalX P w K mg base CX0 7 "_law_parsed" (spP K (m__law_parsed A))) (c__law_read : CalX P w K mg base CX0 4 "_law_read" (spP K (m__law_read A))) (c__law_read_alike : CalX P w K mg base CX0 8 "_law_read_alike" (spP K (m__law_read_alike A))) (c__law_rule : CalX P w K mg base CX0 3 "_law_rule" (spP K (m__law_rule A))) (c__law_written : CalX P w K mg base CX0 2 "_law_written" (spP K (m__law_written A))) {f : Addr} {fd : FuncData} (F : Fun K "law" "law" s_law f fd) : FnOk P w K mg base CX0 9 f fd ["script"] (spP K (m_law A)) :=
  F.ok sc_law (spP_len fun ds r h => (mOf_len h).1) (fun cdv A' outer s H vs Q E hr h => by
    refine ⟨_, (pss_cons (ps_set (i := 1) sc_law.nd rfl (Or.inr rfl) (pe_cx c__law_alphabet hr (by decide) pass0 (by rfl) (pa_cons (pe_cx c__law_cell hr (by decide) pass0 (by rfl) (pa_cons (pv 0) (pa_cons pe_int pa_nil))) pa_nil)))
 (pss_cons (ps_set (i := 2) sc_law.nd rfl (Or.inl rfl) (pe_cx c__law_digits hr (by decide) pass0 (by rfl) (pa_cons (pe_cx c__law_cell hr (by decide) pass0 (by rfl) (pa_cons (pv 0) (pa_cons pe_int pa_nil))) (pa_cons (pe_lst (pa_cons pe_int (pa_cons pe_int (pa_cons pe_int (pa_cons pe_int (pa_cons pe_int (pa_cons pe_int pa_nil))))))) pa_nil))))
 (pss_cons (ps_set (i := 3) sc_law.nd rfl (Or.inr rfl) (pe_op (r := rAddU K) op_addU pe_int (pe_ix (r := rIx K) ix_seq (pv 2) pe_int (fun _ _ => rfl))))
 (pss_cons (ps_if (PW.pt (pw_or (pt_cmpR (r := rEqU K) (op_eqU hr.units) (pe_ix (r := rIx K) ix_seq (pv 2) pe_int (fun _ _ => rfl)) pe_int (nomark _)) (pw_or1 (pt_cmpR (r := rEqU K) (op_eqU hr.units) (pe_ix (r := rIx K) ix_seq (pv 2) pe_int (fun _ _ => rfl)) pe_int (nomark _))))) (pss_one (ps_set (i := 3) sc_law.nd rfl (Or.inr rfl) (pe_op (r := rAddU K) op_addU pe_int (pe_ix (r := rIx K) ix_seq (pv 2) pe_int (fun _ _ => rfl))))) pss_nil)
 (pss_cons (ps_if (pt_cmpR (r := rEqU K) (op_eqU hr.units) (pe_ix (r := rIx K) ix_seq (pv 2) pe_int (fun _ _ => rfl)) pe_int (nomark _)) (pss_one (ps_set (i := 3) sc_law.nd rfl (Or.inr rfl) (pe_op (r := rAddU K) op_addU pe_int (pe_ix (r := rIx K) ix_seq (pv 2) pe_int (fun _ _ => rfl))))) pss_nil)
 (pss_cons (ps_if (pt_cmpR (r := rEqU K) (op_eqU hr.units) (pe_ix (r := rIx K) ix_seq (pv 2) pe_int (fun _ _ => rfl)) pe_int (nomark _)) (pss_one (ps_set (i := 3) sc_law.nd rfl (Or.inr rfl) (pe_op op_sub pe_int (pe_ix (r := rIx K) ix_seq (pv 2) pe_int (fun _ _ => rfl))))) pss_nil)
 (pss_cons (ps_setLc (i := 4) (own := [("k", 7)]) rfl sc_law.nd rfl rfl (sw_true rfl rfl rfl (by decide +kernel)) (pi_range1 (by rfl) T.b_range (pa_cons (pe_ix (r := rIx K) ix_seq (pv 2) pe_int (fun _ _ => rfl)) pa_nil)) (blkOk_by (N := N_law) (sc := defScope s_law) (by decide +kernel)) (fun _ _ _ _ _ => (pg_name (i := 7) sc_law.nd rfl (Or.inl rfl))) (fun _ _ _ _ _ => pts_nil) (fun _ _ _ _ _ => (pe_cx c__law_rule hr (by decide) pass0 (by rfl) (pa_cons (pe_cx c__law_cell hr (by decide) pass0 (by rfl) (pa_cons (pv 0) (pa_cons (pe_op (r := rAddU K) op_addU pe_int (pv 7)) pa_nil))) (pa_cons (pv 1) (pa_cons (pv 3) pa_nil))))))
 (pss_cons (ps_if (pt_cmpR (r := rEqU K) (op_eqU hr.units) (pe_ix (r := rIx K) ix_seq (pv 2) pe_int (fun _ _ => rfl)) pe_int (nomark _)) (pss_one (ps_set (i := 4) sc_law.nd rfl (Or.inl rfl) (pe_op op_mulU (pv 4) pe_int))) pss_nil)
 (pss_cons (ps_set (i := 5) sc_law.nd rfl (Or.inl rfl) (pe_cx c__law_written hr (by decide) pass0 (by rfl) (pa_cons (pv 1) (pa_cons (pv 3) (pa_cons (pv 4) pa_nil)))))
 (pss_cons (ps_set (i := 6) sc_law.nd rfl (Or.inl rfl) (pe_mx c_Grammar hr (by decide) pass0 (by rfl) (pa_cons (pv 1) (pa_cons (pv 3) (pa_cons (pe_lc (own := [("item", 12)]) rfl sc_law.nd (pi_seqU (pv 4)) (blkOk_by (N := N_law) (sc := defScope s_law) (by decide +kernel)) (fun _ _ _ _ _ => (pg_name (i := 12) sc_law.nd rfl (Or.inl rfl))) (fun _ _ _ _ _ => pts_nil) (fun _ _ _ _ _ => (pe_lst (pa_cons (pe_callTy (r := rListU K) call_listU (by rfl) T.b_list PyProof.Rows.boot_list (pa_cons (pe_ix (r := rIx K) ix_seq (pv 12) pe_int (fun _ _ => rfl)) pa_nil)) (pa_cons (pe_callTy (r := rListU K) call_listU (by rfl) T.b_list PyProof.Rows.boot_list (pa_cons (pe_ix (r := rIx K) ix_seq (pv 12) pe_int (fun _ _ => rfl)) pa_nil)) pa_nil))))) pa_nil)))))
 (pss_cons (ps_if (PW.pt (pw_or (pt_not (pt_truthK (K := K) rfl (pe_cx c__law_formatted hr (by decide) pass0 (by rfl) (pa_cons (pv 6) (pa_cons (pv 5) pa_nil))) (fun _ => rfl))) (pw_or1 (pt_cmpR (r := rNeU K) (op_neU hr.units) (pe_ix (r := rIx K) ix_seq (pe_cx c__law_read hr (by decide) pass0 (by rfl) (pa_cons (pv 5) pa_nil)) pe_int (fun _ _ => rfl)) pe_str (nomark _))))) (pss_one (ps_ret pe_bl)) pss_nil)
 (pss_cons (ps_if (PW.pt (pw_or (pt_not (pt_truthK (K := K) rfl (pe_cx c__law_read_alike hr (by decide) pass0 (by rfl) (pa_cons (pv 5) pa_nil)) (fun _ => rfl))) (pw_or1 (pt_not (pt_truthK (K := K) rfl (pe_cx c__law_read_alike hr (by decide) pass0 (by rfl) (pa_cons pe_str pa_nil)) (fun _ => rfl)))))) (pss_one (ps_ret pe_bl)) pss_nil)
 (pss_cons (ps_for PassesOwn.never rfl (pi_range1 (by rfl) T.b_range (pa_cons pe_int pa_nil)) (pg_name (i := 7) sc_law.nd rfl (Or.inl rfl)) (pss_cons (ps_set (i := 8) sc_law.nd rfl (Or.inl rfl) (pe_cx c__law_digits hr (by decide) pass0 (by rfl) (pa_cons (pe_cx c__law_cell hr (by decide) pass0 (by rfl) (pa_cons (pv 0) (pa_cons (pe_op (r := rAddU K) op_addU pe_int (pv 7)) pa_nil))) (pa_cons (pe_lst (pa_cons pe_int (pa_cons pe_int (pa_cons pe_int (pa_cons pe_int (pa_cons pe_int pa_nil)))))) pa_nil))))
 (pss_one (ps_if (pt_not (pt_truthK (K := K) rfl (pe_cx c__law_read_alike hr (by decide) pass0 (by rfl) (pa_cons (pe_cx c__law_changed hr (by decide) pass0 (by rfl) (pa_cons (pv 5) (pa_cons (pv 8) (pa_cons (pv 1) (pa_cons (pv 3) pa_nil))))) pa_nil)) (fun _ => rfl))) (pss_one (ps_ret pe_bl)) pss_nil))))
 (pss_cons (ps_for PassesOwn.never rfl (pi_seqU (pe_lst (pa_cons (pe_op (r := rAddU K) op_addU (pe_op (r := rAddU K) op_addU pe_str (pv 1)) pe_str) (pa_cons (pe_op (r := rAddU K) op_addU (pe_op (r := rAddU K) op_addU pe_str (pv 1)) pe_str) (pa_cons pe_str (pa_cons pe_str (pa_cons pe_str pa_nil))))))) (pg_name (i := 9) sc_law.nd rfl (Or.inl rfl)) (pss_one (ps_if (PW.pt (pw_or (pt_not (pt_truthK (K := K) rfl (pe_cx c__law_read_alike hr (by decide) pass0 (by rfl) (pa_cons (pv 9) pa_nil)) (fun _ => rfl))) (pw_or (pt_not (pt_truthK (K := K) rfl (pe_cx c__law_read_alike hr (by decide) pass0 (by rfl) (pa_cons (pe_op (r := rAddU K) op_addU (pv 9) (pv 5)) pa_nil)) (fun _ => rfl))) (pw_or1 (pt_not (pt_truthK (K := K) rfl (pe_cx c__law_read_alike hr (by decide) pass0 (by rfl) (pa_cons (pe_op (r := rAddU K) op_addU (pv 5) (pe_slice (r := rCutU K) sl_U (pv 9) po_none (po_some pe_int))) pa_nil)) (fun _ => rfl))))))) (pss_one (ps_ret pe_bl)) pss_nil)))
 (pss_cons (ps_for PassesOwn.never rfl (pi_seqU (pe_lst (pa_cons pe_str (pa_cons pe_str (pa_cons pe_str (pa_cons pe_str (pa_cons pe_str (pa_cons pe_str (pa_cons pe_str (pa_cons pe_str (pa_cons pe_str (pa_cons pe_str (pa_cons pe_str pa_nil))))))))))))) (pg_name (i := 10) sc_law.nd rfl (Or.inl rfl)) (pss_one (ps_if (PW.pt (pw_or (pt_not (pt_truthK (K := K) rfl (pe_cx c__law_read_alike hr (by decide) pass0 (by rfl) (pa_cons (pe_op (r := rAddU K) op_addU (pe_op (r := rAddU K) op_addU (pv 5) pe_str) (pv 10)) pa_nil)) (fun _ => rfl))) (pw_or1 (pt_not (pt_truthK (K := K) rfl (pe_cx c__law_read_alike hr (by decide) pass0 (by rfl) (pa_cons (pe_op (r := rAddU K) op_addU (pe_op (r := rAddU K) op_addU (pe_op (r := rAddU K) op_addU (pe_op (r := rAddU K) op_addU (pv 5) pe_str) (pv 10)) pe_str) (pe_ix (r := rIx K) ix_seq (pv 1) pe_int (fun _ _ => rfl))) pa_nil)) (fun _ => rfl)))))) (pss_one (ps_ret pe_bl)) pss_nil)))
 (pss_cons (ps_set (i := 11) sc_law.nd rfl (Or.inl rfl) (pe_cx c__law_parsed hr (by decide) pass0 (by rfl) (pa_cons (pv 5) pa_nil)))
 (pss_one (ps_ret (pe_and (pe_cmpR (r := rEqU K) (op_eqU hr.units) (pe_ix (r := rIx K) ix_seq (pv 11) pe_int (fun _ _ => rfl)) pe_str (nomark _)) (pe_and (pe_cx c__law_kept hr (by decide) pass0 (by rfl) (pa_cons (pe_ix (r := rIx K) ix_seq (pv 11) pe_int (fun _ _ => rfl)) (pa_cons (pv 1) (pa_cons (pv 3) (pa_cons (pv 4) pa_nil))))) (pe_one (pe_cx c__law_formatted hr (by decide) pass0 (by rfl) (pa_cons (pv 6) (pa_cons (pv 5) pa_nil)))))))))))))))))))))))), run_def (E := E) rfl (fun W0 => ?_) h⟩
    exact (vs_seq (vs_asg (vt_call (va_cons (vt_call (va_cons (vt_var 0) (va_cons vt_int va_nil))) va_nil)) (vg_name 1))
 (vs_seq (vs_asg (vt_call (va_cons (vt_call (va_cons (vt_var 0) (va_cons vt_int va_nil))) (va_cons (vt_vn (vn_lst (va_cons vt_int (va_cons vt_int (va_cons vt_int (va_cons vt_int (va_cons vt_int (va_cons vt_int va_nil)))))))) va_nil))) (vg_name 2))
 (vs_seq (vs_asg (vt_op ro_add vt_int (vt_ixv (i := 2) (b2 := false) vt_int)) (vg_name 3))
 (vs_seq (vs_if (vb_or (vb_test (b := false) (vt_opS (b1 := false) (b2 := false) ros_eq (vt_ixv (i := 2) (b2 := false) vt_int) vt_int)) (vb_test (b := false) (vt_opS (b1 := false) (b2 := false) ros_eq (vt_ixv (i := 2) (b2 := false) vt_int) vt_int))) (vs_asg (vt_op ro_add vt_int (vt_ixv (i := 2) (b2 := false) vt_int)) (vg_name 3)) vs_next)
 (vs_seq (vs_if (vb_test (b := false) (vt_opS (b1 := false) (b2 := false) ros_eq (vt_ixv (i := 2) (b2 := false) vt_int) vt_int)) (vs_asg (vt_op ro_add vt_int (vt_ixv (i := 2) (b2 := false) vt_int)) (vg_name 3)) vs_next)
 (vs_seq (vs_if (vb_test (b := false) (vt_opS (b1 := false) (b2 := false) ros_eq (vt_ixv (i := 2) (b2 := false) vt_int) vt_int)) (vs_asg (vt_opS (b1 := false) (b2 := false) ros_sub vt_int (vt_ixv (i := 2) (b2 := false) vt_int)) (vg_name 3)) vs_next)
 (vs_seq (vs_asg (vt_vn (vn_lc (vi_rg1 (b := false) (va_cons (vt_ixv (i := 2) (b2 := false) vt_int) va_nil)) (vg_name 7) (by decide) vb_yes (vt_call (va_cons (vt_call (va_cons (vt_var 0) (va_cons (vt_op ro_add vt_int (vt_var 7)) va_nil))) (va_cons (vt_var 1) (va_cons (vt_var 3) va_nil)))))) (vg_name 4))
 (vs_seq (vs_if (vb_test (b := false) (vt_opS (b1 := false) (b2 := false) ros_eq (vt_ixv (i := 2) (b2 := false) vt_int) vt_int)) (vs_asg (vt_op ro_mul (vt_var 4) vt_int) (vg_name 4)) vs_next)
 (vs_seq (vs_asg (vt_call (va_cons (vt_var 1) (va_cons (vt_var 3) (va_cons (vt_var 4) va_nil)))) (vg_name 5))
 (vs_seq (vs_asg (vt_make (va_cons (vt_var 1) (va_cons (vt_var 3) (va_cons (vt_vn (vn_lc (vi_seqU (vt_var 4)) (vg_name 12) (by decide) vb_yes (vt_vn (vn_lst (va_cons (vt_vn (vn_list (vt_ixv (i := 12) (b2 := false) vt_int))) (va_cons (vt_vn (vn_list (vt_ixv (i := 12) (b2 := false) vt_int))) va_nil)))))) va_nil)))) (vg_name 6))
 (vs_seq (vs_if (vb_or (vb_not (vb_tru (b := false) (vt_call (va_cons (vt_look 6) (va_cons (vt_look 5) va_nil))))) (vb_test (b := false) (vt_opS (b1 := false) (b2 := false) ros_ne (vt_op ro_ix (vt_call (va_cons (vt_look 5) va_nil)) vt_int) vt_str))) (vs_ret vt_bl) vs_next)
 (vs_seq (vs_if (vb_or (vb_not (vb_tru (b := false) (vt_call (va_cons (vt_look 5) va_nil)))) (vb_not (vb_tru (b := false) (vt_call (va_cons vt_str va_nil))))) (vs_ret vt_bl) vs_next)
 (vs_seq (vs_for (vi_rg1 (b := false) (va_cons vt_int va_nil)) (vg_name 7) (vs_seq (vs_asg (vt_call (va_cons (vt_call (va_cons (vt_var 0) (va_cons (vt_op ro_add vt_int (vt_var 7)) va_nil))) (va_cons (vt_vn (vn_lst (va_cons vt_int (va_cons vt_int (va_cons vt_int (va_cons vt_int (va_cons vt_int va_nil))))))) va_nil))) (vg_name 8))
 (vs_if (vb_not (vb_tru (b := false) (vt_call (va_cons (vt_call (va_cons (vt_look 5) (va_cons (vt_look 8) (va_cons (vt_look 1) (va_cons (vt_look 3) va_nil))))) va_nil)))) (vs_ret vt_bl) vs_next)))
 (vs_seq (vs_for (vi_seqU (vt_vn (vn_lst (va_cons (vt_op ro_add (vt_op ro_add vt_str (vt_var 1)) vt_str) (va_cons (vt_op ro_add (vt_op ro_add vt_str (vt_var 1)) vt_str) (va_cons vt_str (va_cons vt_str (va_cons vt_str va_nil)))))))) (vg_name 9) (vs_if (vb_or (vb_not (vb_tru (b := false) (vt_call (va_cons (vt_look 9) va_nil)))) (vb_or (vb_not (vb_tru (b := false) (vt_call (va_cons (vt_op ro_add (vt_look 9) (vt_look 5)) va_nil)))) (vb_not (vb_tru (b := false) (vt_call (va_cons (vt_op ro_add (vt_look 5) (vt_cut (vt_look 9) vo_none (vo_some (b := false) vt_int))) va_nil)))))) (vs_ret vt_bl) vs_next))
 (vs_seq (vs_for (vi_seqU (vt_vn (vn_lst (va_cons vt_str (va_cons vt_str (va_cons vt_str (va_cons vt_str (va_cons vt_str (va_cons vt_str (va_cons vt_str (va_cons vt_str (va_cons vt_str (va_cons vt_str (va_cons vt_str va_nil)))))))))))))) (vg_name 10) (vs_if (vb_or (vb_not (vb_tru (b := false) (vt_call (va_cons (vt_op ro_add (vt_op ro_add (vt_look 5) vt_str) (vt_look 10)) va_nil)))) (vb_not (vb_tru (b := false) (vt_call (va_cons (vt_op ro_add (vt_op ro_add (vt_op ro_add (vt_op ro_add (vt_look 5) vt_str) (vt_look 10)) vt_str) (vt_ixv (i := 1) (b2 := false) vt_int)) va_nil))))) (vs_ret vt_bl) vs_next))
 (vs_seq (vs_asg (vt_call (va_cons (vt_var 5) va_nil)) (vg_name 11))
 (vs_ret (vt_andV (b1 := false) (b2 := false) (vt_opS (b1 := false) (b2 := false) ros_eq (vt_ixv (i := 11) (b2 := false) vt_int) vt_str) (vt_andV (b1 := false) (b2 := false) (vt_call (va_cons (vt_ixv (i := 11) (b2 := false) vt_int) (va_cons (vt_look 1) (va_cons (vt_look 3) (va_cons (vt_look 4) va_nil))))) (vt_call (va_cons (vt_look 6) (va_cons (vt_look 5) va_nil)))))))))))))))))))))))
end
/-- the law's promise: True, whatever the script -/
def spTrue (K : PySem.W.Frag) : Sp := fun vs H Q _ => ∃ (a : Addr) (xs : List Int), vs = [.ref a] ∧ xs.length ≤ 63 ∧ SqL K H a (xs.map V.int) ∧ ∀ H', Q (.bl true) H'
theorem fnOk_true {P : Program} {w : World} {K : PySem.W.Frag} {mg : Str → Option Value} {base : Heap} {CX : CXT} {k : Nat} {f : Addr} {fd : FuncData} {ps : List Str} {M : Ad → List D → Option Res} (hM : ∀ A (xs : List Int), M A [.scr (iD xs)] = some (.val (.bl true))) (A : Ad)
    (F : FnOk P w K mg base CX k f fd ps (spP K (M A))) : FnOk P w K mg base CX k f fd ps (spTrue K) := by
  have key : ∀ vs H Q E, spTrue K vs H Q E → spP K (M A) vs H Q E := by
    rintro vs H Q E ⟨a, xs, rfl, hl, hS, hq⟩
    refine ⟨H, [.scr (iD xs)], .val (.bl true), Same.refl _, .cons (.scr hS (DenL.of_ints xs)) .nil, hM A xs, fun H' F' v _ _ _ _ hd => ?_⟩
    cases hd
    exact hq H'
  exact F.imp key
theorem all_mk {l : PySem.W.OpenLaw} {w : World} {K : PySem.W.Frag} {h : Heap} {mg : Str → Option Value} {fa : Addr} (X : K.In h) (G : h.Ns mainGlobals mg) (hfa : mg "law" = some (.ref fa))
    {C0 : Addr}
    {fi0 : Addr} {odi0 ani0 : Option Addr} {sli0 : Array (Option Value)} {oci0 kVi0 dci0 pmi0 cdi0 cti0 : Value}
    {fq0 : Addr} {odq0 anq0 : Option Addr} {slq0 : Array (Option Value)} {ocq0 kVq0 dcq0 pmq0 cdq0 ctq0 : Value}
    {X0 : Addr} {nmX0 qX0 : Str} {NX0 : Addr} {bsX0 bmX0 : List Value} {snX0 : List Str} {subX0 : List Value} {abX0 : Bool} {colX0 : Option Bool} {ddX0 : Option Addr} {m0X0 m1X0 m2X0 m3X0 m5X0 : Option Value}
    {fx0 : Addr} {odx0 anx0 : Option Addr} {slx0 : Array (Option Value)} {ocx0 kVx0 dcx0 pmx0 cdx0 ctx0 : Value}
    {B0 : Addr}
    {B1 : Addr}
    {B2 : Addr}
    {B3 : Addr}
    {B4 : Addr}
    {B5 : Addr}
    {B6 : Addr}
    {fd0 : Addr} {odd0 and0 : Option Addr} {sld0 : Array (Option Value)} {ocd0 kVd0 dcd0 pmd0 cdd0 ctd0 : Value}
    {fd1 : Addr} {odd1 and1 : Option Addr} {sld1 : Array (Option Value)} {ocd1 kVd1 dcd1 pmd1 cdd1 ctd1 : Value}
    {fd2 : Addr} {odd2 and2 : Option Addr} {sld2 : Array (Option Value)} {ocd2 kVd2 dcd2 pmd2 cdd2 ctd2 : Value}
    {fd3 : Addr} {odd3 and3 : Option Addr} {sld3 : Array (Option Value)} {ocd3 kVd3 dcd3 pmd3 cdd3 ctd3 : Value}
    {fd4 : Addr} {odd4 and4 : Option Addr} {sld4 : Array (Option Value)} {ocd4 kVd4 dcd4 pmd4 cdd4 ctd4 : Value}
    {fd5 : Addr} {odd5 and5 : Option Addr} {sld5 : Array (Option Value)} {ocd5 kVd5 dcd5 pmd5 cdd5 ctd5 : Value}
    {fd6 : Addr} {odd6 and6 : Option Addr} {sld6 : Array (Option Value)} {ocd6 kVd6 dcd6 pmd6 cdd6 ctd6 : Value}
    {fd7 : Addr} {odd7 and7 : Option Addr} {sld7 : Array (Option Value)} {ocd7 kVd7 dcd7 pmd7 cdd7 ctd7 : Value}
    {fd8 : Addr} {odd8 and8 : Option Addr} {sld8 : Array (Option Value)} {ocd8 kVd8 dcd8 pmd8 cdd8 ctd8 : Value}
    {fd9 : Addr} {odd9 and9 : Option Addr} {sld9 : Array (Option Value)} {ocd9 kVd9 dcd9 pmd9 cdd9 ctd9 : Value}
    {fd10 : Addr} {odd10 and10 : Option Addr} {sld10 : Array (Option Value)} {ocd10 kVd10 dcd10 pmd10 cdd10 ctd10 : Value}
    {fd11 : Addr} {odd11 and11 : Option Addr} {sld11 : Array (Option Value)} {ocd11 kVd11 dcd11 pmd11 cdd11 ctd11 : Value}
    {fd12 : Addr} {odd12 and12 : Option Addr} {sld12 : Array (Option Value)} {ocd12 kVd12 dcd12 pmd12 cdd12 ctd12 : Value}
    {fd13 : Addr} {odd13 and13 : Option Addr} {sld13 : Array (Option Value)} {ocd13 kVd13 dcd13 pmd13 cdd13 ctd13 : Value}
    {fd14 : Addr} {odd14 and14 : Option Addr} {sld14 : Array (Option Value)} {ocd14 kVd14 dcd14 pmd14 cdd14 ctd14 : Value}
    {fd15 : Addr} {odd15 and15 : Option Addr} {sld15 : Array (Option Value)} {ocd15 kVd15 dcd15 pmd15 cdd15 ctd15 : Value}
    {fd16 : Addr} {odd16 and16 : Option Addr} {sld16 : Array (Option Value)} {ocd16 kVd16 dcd16 pmd16 cdd16 ctd16 : Value}
    {fd17 : Addr} {odd17 and17 : Option Addr} {sld17 : Array (Option Value)} {ocd17 kVd17 dcd17 pmd17 cdd17 ctd17 : Value}
    {fd18 : Addr} {odd18 and18 : Option Addr} {sld18 : Array (Option Value)} {ocd18 kVd18 dcd18 pmd18 cdd18 ctd18 : Value}
    {fd19 : Addr} {odd19 and19 : Option Addr} {sld19 : Array (Option Value)} {ocd19 kVd19 dcd19 pmd19 cdd19 ctd19 : Value}
    {fd20 : Addr} {odd20 and20 : Option Addr} {sld20 : Array (Option Value)} {ocd20 kVd20 dcd20 pmd20 cdd20 ctd20 : Value}
    {fd21 : Addr} {odd21 and21 : Option Addr} {sld21 : Array (Option Value)} {ocd21 kVd21 dcd21 pmd21 cdd21 ctd21 : Value}
    {fd22 : Addr} {odd22 and22 : Option Addr} {sld22 : Array (Option Value)} {ocd22 kVd22 dcd22 pmd22 cdd22 ctd22 : Value}
    {fd23 : Addr} {odd23 and23 : Option Addr} {sld23 : Array (Option Value)} {ocd23 kVd23 dcd23 pmd23 cdd23 ctd23 : Value}
    {fd24 : Addr} {odd24 and24 : Option Addr} {sld24 : Array (Option Value)} {ocd24 kVd24 dcd24 pmd24 cdd24 ctd24 : Value}
    {fd25 : Addr} {odd25 and25 : Option Addr} {sld25 : Array (Option Value)} {ocd25 kVd25 dcd25 pmd25 cdd25 ctd25 : Value}
    {fd26 : Addr} {odd26 and26 : Option Addr} {sld26 : Array (Option Value)} {ocd26 kVd26 dcd26 pmd26 cdd26 ctd26 : Value}
    {fd27 : Addr} {odd27 and27 : Option Addr} {sld27 : Array (Option Value)} {ocd27 kVd27 dcd27 pmd27 cdd27 ctd27 : Value}
    {fd28 : Addr} {odd28 and28 : Option Addr} {sld28 : Array (Option Value)} {ocd28 kVd28 dcd28 pmd28 cdd28 ctd28 : Value}
    {fd29 : Addr} {odd29 and29 : Option Addr} {sld29 : Array (Option Value)} {ocd29 kVd29 dcd29 pmd29 cdd29 ctd29 : Value}
    {fd30 : Addr} {odd30 and30 : Option Addr} {sld30 : Array (Option Value)} {ocd30 kVd30 dcd30 pmd30 cdd30 ctd30 : Value}
    {fd31 : Addr} {odd31 and31 : Option Addr} {sld31 : Array (Option Value)} {ocd31 kVd31 dcd31 pmd31 cdd31 ctd31 : Value}
    {fd32 : Addr} {odd32 and32 : Option Addr} {sld32 : Array (Option Value)} {ocd32 kVd32 dcd32 pmd32 cdd32 ctd32 : Value}
    {fd33 : Addr} {odd33 and33 : Option Addr} {sld33 : Array (Option Value)} {ocd33 kVd33 dcd33 pmd33 cdd33 ctd33 : Value}
    {fd34 : Addr} {odd34 and34 : Option Addr} {sld34 : Array (Option Value)} {ocd34 kVd34 dcd34 pmd34 cdd34 ctd34 : Value}
    {fd35 : Addr} {odd35 and35 : Option Addr} {sld35 : Array (Option Value)} {ocd35 kVd35 dcd35 pmd35 cdd35 ctd35 : Value}
    {tk_DIGITS : Nat}
    {tk_LETTERS : Nat}
    (aC0 : PySem.W.nsIn K mainGlobals "Grammar" = some (some (.ref C0)))
    (ai0 : PySem.W.findIn K (.ref C0) "__init__" = some (some (.ref fi0))) (ii0 : PySem.W.isFn K (.ref fi0) = true)
    (li0 : K.lookup fi0 = some ⟨oci0, odi0, .func (PySem.W.fnOf "__init__" "Grammar.__init__" (defArgs s_Grammar_init) (defBody s_Grammar_init) (defScope s_Grammar_init) .none kVi0 dci0 pmi0 ani0 cdi0 cti0), sli0⟩) (ci0 : PySem.W.codeIn K cdi0 "Grammar.__init__" = true) (ki0 : PySem.W.keepIn K (.ref fi0) = true)
    (pgC0 : PySem.W.plainGet K C0 Str.empty = true) (hdC0 : PySem.W.hasDictIn K C0 = true) (poC0 : PySem.W.plainOver K C0 = true) (saC0 : PySem.W.findIn K (.ref C0) "__setattr__" = some (some (.builtin "object.__setattr__"))) (mkC0 : PySem.W.makesIn K C0 = true) (kcC0 : PySem.W.keepIn K (.ref C0) = true)
    (nC0_alphabet : PySem.W.findIn K (.ref C0) "alphabet" = some none)
    (nC0_variables : PySem.W.findIn K (.ref C0) "variables" = some none)
    (nC0_rules : PySem.W.findIn K (.ref C0) "rules" = some none)
    (aq0 : PySem.W.findIn K (.ref C0) "__eq__" = some (some (.ref fq0))) (iq0 : PySem.W.isFn K (.ref fq0) = true)
    (lq0 : K.lookup fq0 = some ⟨ocq0, odq0, .func (PySem.W.fnOf "__eq__" "Grammar.__eq__" (defArgs s_Grammar_eq) (defBody s_Grammar_eq) (defScope s_Grammar_eq) .none kVq0 dcq0 pmq0 anq0 cdq0 ctq0), slq0⟩) (cq0 : PySem.W.codeIn K cdq0 "Grammar.__eq__" = true) (kq0 : PySem.W.keepIn K (.ref fq0) = true)
    (aX0 : PySem.W.nsIn K mainGlobals "BadLine" = some (some (.ref X0)))
    (LX0 : K.lookup X0 = some (excClassObj nmX0 qX0 X0 NX0 bsX0 bmX0 true snX0 subX0 abX0 colX0 ddX0 m0X0 m1X0 m2X0 m3X0 m5X0 "ValueError.__new__")) (rvX0 : PySem.HandSPX.refsVE bmX0 = true)
    (ax0 : PySem.W.findIn K (.ref X0) "__init__" = some (some (.ref fx0))) (tx0 : PySem.W.typeIn K (.ref fx0) = some (.type "function"))
    (lx0 : K.lookup fx0 = some ⟨ocx0, odx0, .func (PySem.W.fnOf "__init__" "BadLine.__init__" (defArgs s_x_BadLine) (defBody s_x_BadLine) (defScope s_x_BadLine) .none kVx0 dcx0 pmx0 anx0 cdx0 ctx0), slx0⟩) (cx0 : PySem.W.codeIn K cdx0 "BadLine.__init__" = true) (kx0 : PySem.W.keepIn K (.ref fx0) = true)
    (saX0 : PySem.W.findIn K (.ref X0) "__setattr__" = some (some (.builtin "object.__setattr__"))) (gaX0 : PySem.W.findIn K (.ref X0) "__getattribute__" = some (some (.builtin "BaseException.__getattribute__"))) (ggX0 : PySem.W.findIn K (.ref X0) "__getattr__" = some none)
    (kCX0 : PySem.W.keepIn K (.ref X0) = true) (eCX0 : PySem.W.subIn K (.ref X0) (.type "BaseException") = some true) (tCX0 : PySem.W.typeIn K (.ref X0) = some (.type "type")) (hCX0 : PySem.W.hasDictIn K X0 = true) (iCX0 : PySem.W.isClsIn K X0 = true) (sCX0 : PySem.W.subIn K (.ref X0) (.ref X0) = some true)
    (nX0_index : PySem.W.findIn K (.ref X0) "index" = some none)
    (aB0 : PySem.W.nsIn K mainGlobals "BadAlphabet" = some (some (.ref B0))) (eCB0 : PySem.W.subIn K (.ref B0) (.type "BaseException") = some true) (iCB0 : PySem.W.isClsIn K B0 = true) (tCB0 : PySem.W.typeIn K (.ref B0) = some (.type "type"))
    (aB1 : PySem.W.nsIn K mainGlobals "BadForm" = some (some (.ref B1))) (eCB1 : PySem.W.subIn K (.ref B1) (.type "BaseException") = some true) (iCB1 : PySem.W.isClsIn K B1 = true) (tCB1 : PySem.W.typeIn K (.ref B1) = some (.type "type"))
    (aB2 : PySem.W.nsIn K mainGlobals "BadRow" = some (some (.ref B2))) (eCB2 : PySem.W.subIn K (.ref B2) (.type "BaseException") = some true) (iCB2 : PySem.W.isClsIn K B2 = true) (tCB2 : PySem.W.typeIn K (.ref B2) = some (.type "type"))
    (aB3 : PySem.W.nsIn K mainGlobals "BadRule" = some (some (.ref B3))) (eCB3 : PySem.W.subIn K (.ref B3) (.type "BaseException") = some true) (iCB3 : PySem.W.isClsIn K B3 = true) (tCB3 : PySem.W.typeIn K (.ref B3) = some (.type "type"))
    (aB4 : PySem.W.nsIn K mainGlobals "BadText" = some (some (.ref B4))) (eCB4 : PySem.W.subIn K (.ref B4) (.type "BaseException") = some true) (iCB4 : PySem.W.isClsIn K B4 = true) (tCB4 : PySem.W.typeIn K (.ref B4) = some (.type "type"))
    (aB5 : PySem.W.nsIn K mainGlobals "BadVariables" = some (some (.ref B5))) (eCB5 : PySem.W.subIn K (.ref B5) (.type "BaseException") = some true) (iCB5 : PySem.W.isClsIn K B5 = true) (tCB5 : PySem.W.typeIn K (.ref B5) = some (.type "type"))
    (aB6 : PySem.W.nsIn K mainGlobals "LeashError" = some (some (.ref B6))) (eCB6 : PySem.W.subIn K (.ref B6) (.type "BaseException") = some true) (iCB6 : PySem.W.isClsIn K B6 = true) (tCB6 : PySem.W.typeIn K (.ref B6) = some (.type "type"))
    (atX0 : PySem.W.findIn K (.ref X0) "__class__" = some (some (.builtin "object.__class__"))) (gtX0 : PySem.W.specialIn K (.builtin "object.__class__") "__get__" = some (some (.builtin "getset_descriptor.__get__"))) (tkX0 : PySem.W.takesIn K (.builtin "object.__class__") = some true) (mrX0 : PySem.W.mroIn K X0 (.type "object") = some true)
    (atC0 : PySem.W.findIn K (.ref C0) "__class__" = some (some (.builtin "object.__class__"))) (gtC0 : PySem.W.specialIn K (.builtin "object.__class__") "__get__" = some (some (.builtin "getset_descriptor.__get__"))) (tkC0 : PySem.W.takesIn K (.builtin "object.__class__") = some true) (mrC0 : PySem.W.mroIn K C0 (.type "object") = some true)
    (uBadLine_qBadAlphabet : PySem.W.subIn K (.ref X0) (.ref B0) = some false)
    (neBadLine_qBadAlphabet : X0 ≠ B0)
    (uBadLine_qBadForm : PySem.W.subIn K (.ref X0) (.ref B1) = some false)
    (neBadLine_qBadForm : X0 ≠ B1)
    (uBadLine_qBadRow : PySem.W.subIn K (.ref X0) (.ref B2) = some false)
    (neBadLine_qBadRow : X0 ≠ B2)
    (uBadLine_qBadRule : PySem.W.subIn K (.ref X0) (.ref B3) = some false)
    (neBadLine_qBadRule : X0 ≠ B3)
    (uBadLine_qBadText : PySem.W.subIn K (.ref X0) (.ref B4) = some false)
    (neBadLine_qBadText : X0 ≠ B4)
    (uBadLine_qBadVariables : PySem.W.subIn K (.ref X0) (.ref B5) = some false)
    (neBadLine_qBadVariables : X0 ≠ B5)
    (uBadLine_qValueError : PySem.W.subIn K (.ref X0) (.type "ValueError") = some true)
    (uBadLine_xLeashError : PySem.W.subIn K (.ref X0) (.ref B6) = some true)
    (ad0 : PySem.W.nsIn K mainGlobals "is_alphabet" = some (some (.ref fd0)))
    (ld0 : K.lookup fd0 = some ⟨ocd0, odd0, .func (PySem.W.fnOf "is_alphabet" "is_alphabet" (defArgs s_is_alphabet) (defBody s_is_alphabet) (defScope s_is_alphabet) .none kVd0 dcd0 pmd0 and0 cdd0 ctd0), sld0⟩) (cd0 : PySem.W.codeIn K cdd0 "is_alphabet" = true) (kd0 : PySem.W.keepIn K (.ref fd0) = true)
    (ad1 : PySem.W.nsIn K mainGlobals "check_alphabet" = some (some (.ref fd1)))
    (ld1 : K.lookup fd1 = some ⟨ocd1, odd1, .func (PySem.W.fnOf "check_alphabet" "check_alphabet" (defArgs s_check_alphabet) (defBody s_check_alphabet) (defScope s_check_alphabet) .none kVd1 dcd1 pmd1 and1 cdd1 ctd1), sld1⟩) (cd1 : PySem.W.codeIn K cdd1 "check_alphabet" = true) (kd1 : PySem.W.keepIn K (.ref fd1) = true)
    (ad2 : PySem.W.nsIn K mainGlobals "is_whole" = some (some (.ref fd2)))
    (ld2 : K.lookup fd2 = some ⟨ocd2, odd2, .func (PySem.W.fnOf "is_whole" "is_whole" (defArgs s_is_whole) (defBody s_is_whole) (defScope s_is_whole) .none kVd2 dcd2 pmd2 and2 cdd2 ctd2), sld2⟩) (cd2 : PySem.W.codeIn K cdd2 "is_whole" = true) (kd2 : PySem.W.keepIn K (.ref fd2) = true)
    (ad3 : PySem.W.nsIn K mainGlobals "is_variable" = some (some (.ref fd3)))
    (ld3 : K.lookup fd3 = some ⟨ocd3, odd3, .func (PySem.W.fnOf "is_variable" "is_variable" (defArgs s_is_variable) (defBody s_is_variable) (defScope s_is_variable) .none kVd3 dcd3 pmd3 and3 cdd3 ctd3), sld3⟩) (cd3 : PySem.W.codeIn K cdd3 "is_variable" = true) (kd3 : PySem.W.keepIn K (.ref fd3) = true)
    (ad4 : PySem.W.nsIn K mainGlobals "is_symbol" = some (some (.ref fd4)))
    (ld4 : K.lookup fd4 = some ⟨ocd4, odd4, .func (PySem.W.fnOf "is_symbol" "is_symbol" (defArgs s_is_symbol) (defBody s_is_symbol) (defScope s_is_symbol) .none kVd4 dcd4 pmd4 and4 cdd4 ctd4), sld4⟩) (cd4 : PySem.W.codeIn K cdd4 "is_symbol" = true) (kd4 : PySem.W.keepIn K (.ref fd4) = true)
    (ad5 : PySem.W.nsIn K mainGlobals "is_rule" = some (some (.ref fd5)))
    (ld5 : K.lookup fd5 = some ⟨ocd5, odd5, .func (PySem.W.fnOf "is_rule" "is_rule" (defArgs s_is_rule) (defBody s_is_rule) (defScope s_is_rule) .none kVd5 dcd5 pmd5 and5 cdd5 ctd5), sld5⟩) (cd5 : PySem.W.codeIn K cdd5 "is_rule" = true) (kd5 : PySem.W.keepIn K (.ref fd5) = true)
    (ad6 : PySem.W.nsIn K mainGlobals "read_number" = some (some (.ref fd6)))
    (ld6 : K.lookup fd6 = some ⟨ocd6, odd6, .func (PySem.W.fnOf "read_number" "read_number" (defArgs s_read_number) (defBody s_read_number) (defScope s_read_number) .none kVd6 dcd6 pmd6 and6 cdd6 ctd6), sld6⟩) (cd6 : PySem.W.codeIn K cdd6 "read_number" = true) (kd6 : PySem.W.keepIn K (.ref fd6) = true)
    (ad7 : PySem.W.nsIn K mainGlobals "format_side" = some (some (.ref fd7)))
    (ld7 : K.lookup fd7 = some ⟨ocd7, odd7, .func (PySem.W.fnOf "format_side" "format_side" (defArgs s_format_side) (defBody s_format_side) (defScope s_format_side) .none kVd7 dcd7 pmd7 and7 cdd7 ctd7), sld7⟩) (cd7 : PySem.W.codeIn K cdd7 "format_side" = true) (kd7 : PySem.W.keepIn K (.ref fd7) = true)
    (ad8 : PySem.W.nsIn K mainGlobals "format_grammar" = some (some (.ref fd8)))
    (ld8 : K.lookup fd8 = some ⟨ocd8, odd8, .func (PySem.W.fnOf "format_grammar" "format_grammar" (defArgs s_format_grammar) (defBody s_format_grammar) (defScope s_format_grammar) .none kVd8 dcd8 pmd8 and8 cdd8 ctd8), sld8⟩) (cd8 : PySem.W.codeIn K cdd8 "format_grammar" = true) (kd8 : PySem.W.keepIn K (.ref fd8) = true)
    (ad9 : PySem.W.nsIn K mainGlobals "read_side" = some (some (.ref fd9)))
    (ld9 : K.lookup fd9 = some ⟨ocd9, odd9, .func (PySem.W.fnOf "read_side" "read_side" (defArgs s_read_side) (defBody s_read_side) (defScope s_read_side) .none kVd9 dcd9 pmd9 and9 cdd9 ctd9), sld9⟩) (cd9 : PySem.W.codeIn K cdd9 "read_side" = true) (kd9 : PySem.W.keepIn K (.ref fd9) = true)
    (ad10 : PySem.W.nsIn K mainGlobals "read_rule" = some (some (.ref fd10)))
    (ld10 : K.lookup fd10 = some ⟨ocd10, odd10, .func (PySem.W.fnOf "read_rule" "read_rule" (defArgs s_read_rule) (defBody s_read_rule) (defScope s_read_rule) .none kVd10 dcd10 pmd10 and10 cdd10 ctd10), sld10⟩) (cd10 : PySem.W.codeIn K cdd10 "read_rule" = true) (kd10 : PySem.W.keepIn K (.ref fd10) = true)
    (ad11 : PySem.W.nsIn K mainGlobals "read_grammar_head" = some (some (.ref fd11)))
    (ld11 : K.lookup fd11 = some ⟨ocd11, odd11, .func (PySem.W.fnOf "read_grammar_head" "read_grammar_head" (defArgs s_read_grammar_head) (defBody s_read_grammar_head) (defScope s_read_grammar_head) .none kVd11 dcd11 pmd11 and11 cdd11 ctd11), sld11⟩) (cd11 : PySem.W.codeIn K cdd11 "read_grammar_head" = true) (kd11 : PySem.W.keepIn K (.ref fd11) = true)
    (ad12 : PySem.W.nsIn K mainGlobals "parse_grammar" = some (some (.ref fd12)))
    (ld12 : K.lookup fd12 = some ⟨ocd12, odd12, .func (PySem.W.fnOf "parse_grammar" "parse_grammar" (defArgs s_parse_grammar) (defBody s_parse_grammar) (defScope s_parse_grammar) .none kVd12 dcd12 pmd12 and12 cdd12 ctd12), sld12⟩) (cd12 : PySem.W.codeIn K cdd12 "parse_grammar" = true) (kd12 : PySem.W.keepIn K (.ref fd12) = true)
    (ad13 : PySem.W.nsIn K mainGlobals "_law_whole" = some (some (.ref fd13)))
    (ld13 : K.lookup fd13 = some ⟨ocd13, odd13, .func (PySem.W.fnOf "_law_whole" "_law_whole" (defArgs s__law_whole) (defBody s__law_whole) (defScope s__law_whole) .none kVd13 dcd13 pmd13 and13 cdd13 ctd13), sld13⟩) (cd13 : PySem.W.codeIn K cdd13 "_law_whole" = true) (kd13 : PySem.W.keepIn K (.ref fd13) = true)
    (ad14 : PySem.W.nsIn K mainGlobals "_law_cell" = some (some (.ref fd14)))
    (ld14 : K.lookup fd14 = some ⟨ocd14, odd14, .func (PySem.W.fnOf "_law_cell" "_law_cell" (defArgs s__law_cell) (defBody s__law_cell) (defScope s__law_cell) .none kVd14 dcd14 pmd14 and14 cdd14 ctd14), sld14⟩) (cd14 : PySem.W.codeIn K cdd14 "_law_cell" = true) (kd14 : PySem.W.keepIn K (.ref fd14) = true)
    (ad15 : PySem.W.nsIn K mainGlobals "_law_digits" = some (some (.ref fd15)))
    (ld15 : K.lookup fd15 = some ⟨ocd15, odd15, .func (PySem.W.fnOf "_law_digits" "_law_digits" (defArgs s__law_digits) (defBody s__law_digits) (defScope s__law_digits) .none kVd15 dcd15 pmd15 and15 cdd15 ctd15), sld15⟩) (cd15 : PySem.W.codeIn K cdd15 "_law_digits" = true) (kd15 : PySem.W.keepIn K (.ref fd15) = true)
    (ad16 : PySem.W.nsIn K mainGlobals "_law_alphabet" = some (some (.ref fd16)))
    (ld16 : K.lookup fd16 = some ⟨ocd16, odd16, .func (PySem.W.fnOf "_law_alphabet" "_law_alphabet" (defArgs s__law_alphabet) (defBody s__law_alphabet) (defScope s__law_alphabet) .none kVd16 dcd16 pmd16 and16 cdd16 ctd16), sld16⟩) (cd16 : PySem.W.codeIn K cdd16 "_law_alphabet" = true) (kd16 : PySem.W.keepIn K (.ref fd16) = true)
    (ad17 : PySem.W.nsIn K mainGlobals "_law_is_alphabet" = some (some (.ref fd17)))
    (ld17 : K.lookup fd17 = some ⟨ocd17, odd17, .func (PySem.W.fnOf "_law_is_alphabet" "_law_is_alphabet" (defArgs s__law_is_alphabet) (defBody s__law_is_alphabet) (defScope s__law_is_alphabet) .none kVd17 dcd17 pmd17 and17 cdd17 ctd17), sld17⟩) (cd17 : PySem.W.codeIn K cdd17 "_law_is_alphabet" = true) (kd17 : PySem.W.keepIn K (.ref fd17) = true)
    (ad18 : PySem.W.nsIn K mainGlobals "_law_variable" = some (some (.ref fd18)))
    (ld18 : K.lookup fd18 = some ⟨ocd18, odd18, .func (PySem.W.fnOf "_law_variable" "_law_variable" (defArgs s__law_variable) (defBody s__law_variable) (defScope s__law_variable) .none kVd18 dcd18 pmd18 and18 cdd18 ctd18), sld18⟩) (cd18 : PySem.W.codeIn K cdd18 "_law_variable" = true) (kd18 : PySem.W.keepIn K (.ref fd18) = true)
    (ad19 : PySem.W.nsIn K mainGlobals "_law_symbol" = some (some (.ref fd19)))
    (ld19 : K.lookup fd19 = some ⟨ocd19, odd19, .func (PySem.W.fnOf "_law_symbol" "_law_symbol" (defArgs s__law_symbol) (defBody s__law_symbol) (defScope s__law_symbol) .none kVd19 dcd19 pmd19 and19 cdd19 ctd19), sld19⟩) (cd19 : PySem.W.codeIn K cdd19 "_law_symbol" = true) (kd19 : PySem.W.keepIn K (.ref fd19) = true)
    (ad20 : PySem.W.nsIn K mainGlobals "_law_rule" = some (some (.ref fd20)))
    (ld20 : K.lookup fd20 = some ⟨ocd20, odd20, .func (PySem.W.fnOf "_law_rule" "_law_rule" (defArgs s__law_rule) (defBody s__law_rule) (defScope s__law_rule) .none kVd20 dcd20 pmd20 and20 cdd20 ctd20), sld20⟩) (cd20 : PySem.W.codeIn K cdd20 "_law_rule" = true) (kd20 : PySem.W.keepIn K (.ref fd20) = true)
    (ad21 : PySem.W.nsIn K mainGlobals "_law_side" = some (some (.ref fd21)))
    (ld21 : K.lookup fd21 = some ⟨ocd21, odd21, .func (PySem.W.fnOf "_law_side" "_law_side" (defArgs s__law_side) (defBody s__law_side) (defScope s__law_side) .none kVd21 dcd21 pmd21 and21 cdd21 ctd21), sld21⟩) (cd21 : PySem.W.codeIn K cdd21 "_law_side" = true) (kd21 : PySem.W.keepIn K (.ref fd21) = true)
    (ad22 : PySem.W.nsIn K mainGlobals "_law_written" = some (some (.ref fd22)))
    (ld22 : K.lookup fd22 = some ⟨ocd22, odd22, .func (PySem.W.fnOf "_law_written" "_law_written" (defArgs s__law_written) (defBody s__law_written) (defScope s__law_written) .none kVd22 dcd22 pmd22 and22 cdd22 ctd22), sld22⟩) (cd22 : PySem.W.codeIn K cdd22 "_law_written" = true) (kd22 : PySem.W.keepIn K (.ref fd22) = true)
    (ad23 : PySem.W.nsIn K mainGlobals "_law_number" = some (some (.ref fd23)))
    (ld23 : K.lookup fd23 = some ⟨ocd23, odd23, .func (PySem.W.fnOf "_law_number" "_law_number" (defArgs s__law_number) (defBody s__law_number) (defScope s__law_number) .none kVd23 dcd23 pmd23 and23 cdd23 ctd23), sld23⟩) (cd23 : PySem.W.codeIn K cdd23 "_law_number" = true) (kd23 : PySem.W.keepIn K (.ref fd23) = true)
    (ad24 : PySem.W.nsIn K mainGlobals "_law_read_symbol" = some (some (.ref fd24)))
    (ld24 : K.lookup fd24 = some ⟨ocd24, odd24, .func (PySem.W.fnOf "_law_read_symbol" "_law_read_symbol" (defArgs s__law_read_symbol) (defBody s__law_read_symbol) (defScope s__law_read_symbol) .none kVd24 dcd24 pmd24 and24 cdd24 ctd24), sld24⟩) (cd24 : PySem.W.codeIn K cdd24 "_law_read_symbol" = true) (kd24 : PySem.W.keepIn K (.ref fd24) = true)
    (ad25 : PySem.W.nsIn K mainGlobals "_law_read_rule" = some (some (.ref fd25)))
    (ld25 : K.lookup fd25 = some ⟨ocd25, odd25, .func (PySem.W.fnOf "_law_read_rule" "_law_read_rule" (defArgs s__law_read_rule) (defBody s__law_read_rule) (defScope s__law_read_rule) .none kVd25 dcd25 pmd25 and25 cdd25 ctd25), sld25⟩) (cd25 : PySem.W.codeIn K cdd25 "_law_read_rule" = true) (kd25 : PySem.W.keepIn K (.ref fd25) = true)
    (ad26 : PySem.W.nsIn K mainGlobals "_law_read" = some (some (.ref fd26)))
    (ld26 : K.lookup fd26 = some ⟨ocd26, odd26, .func (PySem.W.fnOf "_law_read" "_law_read" (defArgs s__law_read) (defBody s__law_read) (defScope s__law_read) .none kVd26 dcd26 pmd26 and26 cdd26 ctd26), sld26⟩) (cd26 : PySem.W.codeIn K cdd26 "_law_read" = true) (kd26 : PySem.W.keepIn K (.ref fd26) = true)
    (ad27 : PySem.W.nsIn K mainGlobals "_law_word" = some (some (.ref fd27)))
    (ld27 : K.lookup fd27 = some ⟨ocd27, odd27, .func (PySem.W.fnOf "_law_word" "_law_word" (defArgs s__law_word) (defBody s__law_word) (defScope s__law_word) .none kVd27 dcd27 pmd27 and27 cdd27 ctd27), sld27⟩) (cd27 : PySem.W.codeIn K cdd27 "_law_word" = true) (kd27 : PySem.W.keepIn K (.ref fd27) = true)
    (ad28 : PySem.W.nsIn K mainGlobals "_law_changed_line" = some (some (.ref fd28)))
    (ld28 : K.lookup fd28 = some ⟨ocd28, odd28, .func (PySem.W.fnOf "_law_changed_line" "_law_changed_line" (defArgs s__law_changed_line) (defBody s__law_changed_line) (defScope s__law_changed_line) .none kVd28 dcd28 pmd28 and28 cdd28 ctd28), sld28⟩) (cd28 : PySem.W.codeIn K cdd28 "_law_changed_line" = true) (kd28 : PySem.W.keepIn K (.ref fd28) = true)
    (ad29 : PySem.W.nsIn K mainGlobals "_law_changed" = some (some (.ref fd29)))
    (ld29 : K.lookup fd29 = some ⟨ocd29, odd29, .func (PySem.W.fnOf "_law_changed" "_law_changed" (defArgs s__law_changed) (defBody s__law_changed) (defScope s__law_changed) .none kVd29 dcd29 pmd29 and29 cdd29 ctd29), sld29⟩) (cd29 : PySem.W.codeIn K cdd29 "_law_changed" = true) (kd29 : PySem.W.keepIn K (.ref fd29) = true)
    (ad30 : PySem.W.nsIn K mainGlobals "_law_side_alike" = some (some (.ref fd30)))
    (ld30 : K.lookup fd30 = some ⟨ocd30, odd30, .func (PySem.W.fnOf "_law_side_alike" "_law_side_alike" (defArgs s__law_side_alike) (defBody s__law_side_alike) (defScope s__law_side_alike) .none kVd30 dcd30 pmd30 and30 cdd30 ctd30), sld30⟩) (cd30 : PySem.W.codeIn K cdd30 "_law_side_alike" = true) (kd30 : PySem.W.keepIn K (.ref fd30) = true)
    (ad31 : PySem.W.nsIn K mainGlobals "_law_kept" = some (some (.ref fd31)))
    (ld31 : K.lookup fd31 = some ⟨ocd31, odd31, .func (PySem.W.fnOf "_law_kept" "_law_kept" (defArgs s__law_kept) (defBody s__law_kept) (defScope s__law_kept) .none kVd31 dcd31 pmd31 and31 cdd31 ctd31), sld31⟩) (cd31 : PySem.W.codeIn K cdd31 "_law_kept" = true) (kd31 : PySem.W.keepIn K (.ref fd31) = true)
    (ad32 : PySem.W.nsIn K mainGlobals "_law_parsed" = some (some (.ref fd32)))
    (ld32 : K.lookup fd32 = some ⟨ocd32, odd32, .func (PySem.W.fnOf "_law_parsed" "_law_parsed" (defArgs s__law_parsed) (defBody s__law_parsed) (defScope s__law_parsed) .none kVd32 dcd32 pmd32 and32 cdd32 ctd32), sld32⟩) (cd32 : PySem.W.codeIn K cdd32 "_law_parsed" = true) (kd32 : PySem.W.keepIn K (.ref fd32) = true)
    (ad33 : PySem.W.nsIn K mainGlobals "_law_formatted" = some (some (.ref fd33)))
    (ld33 : K.lookup fd33 = some ⟨ocd33, odd33, .func (PySem.W.fnOf "_law_formatted" "_law_formatted" (defArgs s__law_formatted) (defBody s__law_formatted) (defScope s__law_formatted) .none kVd33 dcd33 pmd33 and33 cdd33 ctd33), sld33⟩) (cd33 : PySem.W.codeIn K cdd33 "_law_formatted" = true) (kd33 : PySem.W.keepIn K (.ref fd33) = true)
    (ad34 : PySem.W.nsIn K mainGlobals "_law_read_alike" = some (some (.ref fd34)))
    (ld34 : K.lookup fd34 = some ⟨ocd34, odd34, .func (PySem.W.fnOf "_law_read_alike" "_law_read_alike" (defArgs s__law_read_alike) (defBody s__law_read_alike) (defScope s__law_read_alike) .none kVd34 dcd34 pmd34 and34 cdd34 ctd34), sld34⟩) (cd34 : PySem.W.codeIn K cdd34 "_law_read_alike" = true) (kd34 : PySem.W.keepIn K (.ref fd34) = true)
    (ad35 : PySem.W.nsIn K mainGlobals "law" = some (some (.ref fd35)))
    (ld35 : K.lookup fd35 = some ⟨ocd35, odd35, .func (PySem.W.fnOf "law" "law" (defArgs s_law) (defBody s_law) (defScope s_law) .none kVd35 dcd35 pmd35 and35 cdd35 ctd35), sld35⟩) (cd35 : PySem.W.codeIn K cdd35 "law" = true) (kd35 : PySem.W.keepIn K (.ref fd35) = true)
    (z_ValueError : PySem.W.nsIn K mainGlobals "ValueError" = some none)
    (z_bool : PySem.W.nsIn K mainGlobals "bool" = some none)
    (z_enumerate : PySem.W.nsIn K mainGlobals "enumerate" = some none)
    (z_int : PySem.W.nsIn K mainGlobals "int" = some none)
    (z_isinstance : PySem.W.nsIn K mainGlobals "isinstance" = some none)
    (z_len : PySem.W.nsIn K mainGlobals "len" = some none)
    (z_list : PySem.W.nsIn K mainGlobals "list" = some none)
    (z_min : PySem.W.nsIn K mainGlobals "min" = some none)
    (z_range : PySem.W.nsIn K mainGlobals "range" = some none)
    (z_str : PySem.W.nsIn K mainGlobals "str" = some none)
    (z_tuple : PySem.W.nsIn K mainGlobals "tuple" = some none)
    (z_DIGITS : PySem.W.nsIn K mainGlobals "DIGITS" = some (some (Value.str "0123456789" tk_DIGITS)))
    (z_LETTERS : PySem.W.nsIn K mainGlobals "LETTERS" = some (some (Value.str "abcdefghijklmnopqrstuvwxyz" tk_LETTERS))) :
    ∃ fd : FuncData, (∀ (s : Shared) (v : Value), BindsTo s fd ⟨[v], []⟩ [("script", v)]) ∧ ∀ base : Heap, K.In base → base.Ns mainGlobals mg → FnOk l.prog w K mg base CX0 9 fa fd ["script"] (spTrue K) := by
  have e := hfa.symm.trans (PySem.W.mg_of X G ad35)
  cases e
  have T : Txt K mg (⟨C0, X0, B0, B1, B2, B3, B4, B5, B6⟩ : Ad) := ⟨PySem.W.mg_none_of X G z_ValueError, PySem.W.mg_none_of X G z_bool, PySem.W.mg_none_of X G z_enumerate, PySem.W.mg_none_of X G z_int, PySem.W.mg_none_of X G z_isinstance, PySem.W.mg_none_of X G z_len, PySem.W.mg_none_of X G z_list, PySem.W.mg_none_of X G z_min, PySem.W.mg_none_of X G z_range, PySem.W.mg_none_of X G z_str, PySem.W.mg_none_of X G z_tuple, ⟨_, PySem.W.mg_of X G z_DIGITS, ⟨_, rfl⟩⟩, ⟨_, PySem.W.mg_of X G z_LETTERS, ⟨_, rfl⟩⟩, ⟨pgC0, hdC0, poC0, saC0⟩, PySem.W.mg_of X G aC0, ⟨⟨pgC0, hdC0, poC0, saC0⟩, atC0, gtC0, tkC0, mrC0, kit_same⟩, nC0_alphabet, nC0_variables, nC0_rules, PySem.W.mg_of X G aX0, exm_same eCX0 iCX0 tCX0 sCX0, ⟨⟨gaX0, ggX0, eCX0, hCX0⟩, iCX0, atX0, gtX0, tkX0, mrX0⟩, ⟨gaX0, ggX0, eCX0, hCX0⟩, nX0_index, PySem.W.mg_of X G aB0, PySem.W.mg_of X G aB1, PySem.W.mg_of X G aB2, PySem.W.mg_of X G aB3, PySem.W.mg_of X G aB4, PySem.W.mg_of X G aB5, PySem.W.mg_of X G aB6, kit_sub neBadLine_qBadAlphabet iCB0 tCB0 uBadLine_qBadAlphabet, kit_sub neBadLine_qBadForm iCB1 tCB1 uBadLine_qBadForm, kit_same, kit_sub neBadLine_qBadRow iCB2 tCB2 uBadLine_qBadRow, kit_sub neBadLine_qBadRule iCB3 tCB3 uBadLine_qBadRule, kit_sub neBadLine_qBadText iCB4 tCB4 uBadLine_qBadText, kit_sub neBadLine_qBadVariables iCB5 tCB5 uBadLine_qBadVariables, kit_ty (by decide +kernel) uBadLine_qValueError, exm_sub eCB6 iCB6 tCB6 uBadLine_xLeashError⟩
  refine ⟨PySem.W.fnOf "law" "law" (defArgs s_law) (defBody s_law) (defScope s_law) .none kVd35 dcd35 pmd35 and35 cdd35 ctd35, fun s v => .of_eq rfl, fun base _ _ => ?_⟩
  have Fx0 := fun_mk (st := s_x_BadLine) lx0 cx0 kx0
  have x_BadLine := ok_x_BadLine (P := l.prog) (w := w) (base := base) T ⟨⟨_, _, _, _, _, _, _, _, _, _, _, _, _, _, _, LX0, rvX0⟩, saX0, eCX0, tCX0, kCX0⟩ ax0 tx0 Fx0 (Fx0.binds (ps := ["self", "index"]) fun _ _ _ _ _ _ us hl => match us, hl with | [_, _], _ => rfl)
  have Fd0 := fun_mk (st := s_is_alphabet) ld0 cd0 kd0
  have c_is_alphabet := ok_is_alphabet (P := l.prog) (w := w) (base := base) (A := (⟨C0, X0, B0, B1, B2, B3, B4, B5, B6⟩ : Ad)) T  Fd0 (PySem.W.mg_of X G ad0) (Fd0.binds (ps := ["value"]) fun _ _ _ _ _ _ us hl => match us, hl with | [_], _ => rfl)
  have Fd1 := fun_mk (st := s_check_alphabet) ld1 cd1 kd1
  have c_check_alphabet := ok_check_alphabet (P := l.prog) (w := w) (base := base) (A := (⟨C0, X0, B0, B1, B2, B3, B4, B5, B6⟩ : Ad)) T c_is_alphabet Fd1 (PySem.W.mg_of X G ad1) (Fd1.binds (ps := ["alphabet"]) fun _ _ _ _ _ _ us hl => match us, hl with | [_], _ => rfl)
  have Fd2 := fun_mk (st := s_is_whole) ld2 cd2 kd2
  have c_is_whole := ok_is_whole (P := l.prog) (w := w) (base := base) (A := (⟨C0, X0, B0, B1, B2, B3, B4, B5, B6⟩ : Ad)) T  Fd2 (PySem.W.mg_of X G ad2) (Fd2.binds (ps := ["value"]) fun _ _ _ _ _ _ us hl => match us, hl with | [_], _ => rfl)
  have Fd3 := fun_mk (st := s_is_variable) ld3 cd3 kd3
  have c_is_variable := ok_is_variable (P := l.prog) (w := w) (base := base) (A := (⟨C0, X0, B0, B1, B2, B3, B4, B5, B6⟩ : Ad)) T  Fd3 (PySem.W.mg_of X G ad3) (Fd3.binds (ps := ["symbol"]) fun _ _ _ _ _ _ us hl => match us, hl with | [_], _ => rfl)
  have Fd4 := fun_mk (st := s_is_symbol) ld4 cd4 kd4
  have c_is_symbol := ok_is_symbol (P := l.prog) (w := w) (base := base) (A := (⟨C0, X0, B0, B1, B2, B3, B4, B5, B6⟩ : Ad)) T c_is_whole Fd4 (PySem.W.mg_of X G ad4) (Fd4.binds (ps := ["symbol", "alphabet", "variables"]) fun _ _ _ _ _ _ us hl => match us, hl with | [_, _, _], _ => rfl)
  have Fd5 := fun_mk (st := s_is_rule) ld5 cd5 kd5
  have c_is_rule := ok_is_rule (P := l.prog) (w := w) (base := base) (A := (⟨C0, X0, B0, B1, B2, B3, B4, B5, B6⟩ : Ad)) T c_is_symbol c_is_variable Fd5 (PySem.W.mg_of X G ad5) (Fd5.binds (ps := ["left", "right", "alphabet", "variables"]) fun _ _ _ _ _ _ us hl => match us, hl with | [_, _, _, _], _ => rfl)
  have Fi0 := fun_mk (st := s_Grammar_init) li0 ci0 ki0
  have c_Grammar := ok_Grammar_init (P := l.prog) (w := w) (base := base) (A := (⟨C0, X0, B0, B1, B2, B3, B4, B5, B6⟩ : Ad)) T c_check_alphabet c_is_rule ⟨mkC0, ai0, ii0, kcC0⟩ Fi0 (PySem.W.mg_of X G aC0) (Fi0.binds (ps := ["self", "alphabet", "variables", "rules"]) fun _ _ _ _ _ _ us hl => match us, hl with | [_, _, _, _], _ => rfl)
  have Fq0 := fun_mk (st := s_Grammar_eq) lq0 cq0 kq0
  have e_Grammar := ok_Grammar_eq (P := l.prog) (w := w) (base := base) (A := (⟨C0, X0, B0, B1, B2, B3, B4, B5, B6⟩ : Ad)) T  Fq0 aq0 iq0 (Fq0.binds (ps := ["self", "other"]) fun _ _ _ _ _ _ us hl => match us, hl with | [_, _], _ => rfl)
  have Fd6 := fun_mk (st := s_read_number) ld6 cd6 kd6
  have c_read_number := ok_read_number (P := l.prog) (w := w) (base := base) (A := (⟨C0, X0, B0, B1, B2, B3, B4, B5, B6⟩ : Ad)) T  Fd6 (PySem.W.mg_of X G ad6) (Fd6.binds (ps := ["word"]) fun _ _ _ _ _ _ us hl => match us, hl with | [_], _ => rfl)
  have Fd7 := fun_mk (st := s_format_side) ld7 cd7 kd7
  have c_format_side := ok_format_side (P := l.prog) (w := w) (base := base) (A := (⟨C0, X0, B0, B1, B2, B3, B4, B5, B6⟩ : Ad)) T  Fd7 (PySem.W.mg_of X G ad7) (Fd7.binds (ps := ["symbols"]) fun _ _ _ _ _ _ us hl => match us, hl with | [_], _ => rfl)
  have Fd8 := fun_mk (st := s_format_grammar) ld8 cd8 kd8
  have c_format_grammar := ok_format_grammar (P := l.prog) (w := w) (base := base) (A := (⟨C0, X0, B0, B1, B2, B3, B4, B5, B6⟩ : Ad)) T c_format_side Fd8 (PySem.W.mg_of X G ad8) (Fd8.binds (ps := ["grammar"]) fun _ _ _ _ _ _ us hl => match us, hl with | [_], _ => rfl)
  have Fd9 := fun_mk (st := s_read_side) ld9 cd9 kd9
  have c_read_side := ok_read_side (P := l.prog) (w := w) (base := base) (A := (⟨C0, X0, B0, B1, B2, B3, B4, B5, B6⟩ : Ad)) T c_read_number Fd9 (PySem.W.mg_of X G ad9) (Fd9.binds (ps := ["words"]) fun _ _ _ _ _ _ us hl => match us, hl with | [_], _ => rfl)
  have Fd10 := fun_mk (st := s_read_rule) ld10 cd10 kd10
  have c_read_rule := ok_read_rule (P := l.prog) (w := w) (base := base) (A := (⟨C0, X0, B0, B1, B2, B3, B4, B5, B6⟩ : Ad)) T c_read_side Fd10 (PySem.W.mg_of X G ad10) (Fd10.binds (ps := ["line"]) fun _ _ _ _ _ _ us hl => match us, hl with | [_], _ => rfl)
  have Fd11 := fun_mk (st := s_read_grammar_head) ld11 cd11 kd11
  have c_read_grammar_head := ok_read_grammar_head (P := l.prog) (w := w) (base := base) (A := (⟨C0, X0, B0, B1, B2, B3, B4, B5, B6⟩ : Ad)) T c_is_alphabet c_read_number Fd11 (PySem.W.mg_of X G ad11) (Fd11.binds (ps := ["line"]) fun _ _ _ _ _ _ us hl => match us, hl with | [_], _ => rfl)
  have Fd12 := fun_mk (st := s_parse_grammar) ld12 cd12 kd12
  have c_parse_grammar := ok_parse_grammar (P := l.prog) (w := w) (base := base) (A := (⟨C0, X0, B0, B1, B2, B3, B4, B5, B6⟩ : Ad)) T c_Grammar c_is_rule c_read_grammar_head c_read_rule x_BadLine Fd12 (PySem.W.mg_of X G ad12) (Fd12.binds (ps := ["text"]) fun _ _ _ _ _ _ us hl => match us, hl with | [_], _ => rfl)
  have Fd13 := fun_mk (st := s__law_whole) ld13 cd13 kd13
  have c__law_whole := ok__law_whole (P := l.prog) (w := w) (base := base) (A := (⟨C0, X0, B0, B1, B2, B3, B4, B5, B6⟩ : Ad)) T  Fd13 (PySem.W.mg_of X G ad13) (Fd13.binds (ps := ["value"]) fun _ _ _ _ _ _ us hl => match us, hl with | [_], _ => rfl)
  have Fd14 := fun_mk (st := s__law_cell) ld14 cd14 kd14
  have c__law_cell := ok__law_cell (P := l.prog) (w := w) (base := base) (A := (⟨C0, X0, B0, B1, B2, B3, B4, B5, B6⟩ : Ad)) T  Fd14 (PySem.W.mg_of X G ad14) (Fd14.binds (ps := ["script", "k"]) fun _ _ _ _ _ _ us hl => match us, hl with | [_, _], _ => rfl)
  have Fd15 := fun_mk (st := s__law_digits) ld15 cd15 kd15
  have c__law_digits := ok__law_digits (P := l.prog) (w := w) (base := base) (A := (⟨C0, X0, B0, B1, B2, B3, B4, B5, B6⟩ : Ad)) T  Fd15 (PySem.W.mg_of X G ad15) (Fd15.binds (ps := ["cell", "sizes"]) fun _ _ _ _ _ _ us hl => match us, hl with | [_, _], _ => rfl)
  have Fd16 := fun_mk (st := s__law_alphabet) ld16 cd16 kd16
  have c__law_alphabet := ok__law_alphabet (P := l.prog) (w := w) (base := base) (A := (⟨C0, X0, B0, B1, B2, B3, B4, B5, B6⟩ : Ad)) T c__law_digits Fd16 (PySem.W.mg_of X G ad16) (Fd16.binds (ps := ["cell"]) fun _ _ _ _ _ _ us hl => match us, hl with | [_], _ => rfl)
  have Fd17 := fun_mk (st := s__law_is_alphabet) ld17 cd17 kd17
  have c__law_is_alphabet := ok__law_is_alphabet (P := l.prog) (w := w) (base := base) (A := (⟨C0, X0, B0, B1, B2, B3, B4, B5, B6⟩ : Ad)) T  Fd17 (PySem.W.mg_of X G ad17) (Fd17.binds (ps := ["string"]) fun _ _ _ _ _ _ us hl => match us, hl with | [_], _ => rfl)
  have Fd18 := fun_mk (st := s__law_variable) ld18 cd18 kd18
  have c__law_variable := ok__law_variable (P := l.prog) (w := w) (base := base) (A := (⟨C0, X0, B0, B1, B2, B3, B4, B5, B6⟩ : Ad)) T  Fd18 (PySem.W.mg_of X G ad18) (Fd18.binds (ps := ["digit", "variables"]) fun _ _ _ _ _ _ us hl => match us, hl with | [_, _], _ => rfl)
  have Fd19 := fun_mk (st := s__law_symbol) ld19 cd19 kd19
  have c__law_symbol := ok__law_symbol (P := l.prog) (w := w) (base := base) (A := (⟨C0, X0, B0, B1, B2, B3, B4, B5, B6⟩ : Ad)) T c__law_variable Fd19 (PySem.W.mg_of X G ad19) (Fd19.binds (ps := ["digit", "alphabet", "variables"]) fun _ _ _ _ _ _ us hl => match us, hl with | [_, _, _], _ => rfl)
  have Fd20 := fun_mk (st := s__law_rule) ld20 cd20 kd20
  have c__law_rule := ok__law_rule (P := l.prog) (w := w) (base := base) (A := (⟨C0, X0, B0, B1, B2, B3, B4, B5, B6⟩ : Ad)) T c__law_digits c__law_symbol c__law_variable Fd20 (PySem.W.mg_of X G ad20) (Fd20.binds (ps := ["cell", "alphabet", "variables"]) fun _ _ _ _ _ _ us hl => match us, hl with | [_, _, _], _ => rfl)
  have Fd21 := fun_mk (st := s__law_side) ld21 cd21 kd21
  have c__law_side := ok__law_side (P := l.prog) (w := w) (base := base) (A := (⟨C0, X0, B0, B1, B2, B3, B4, B5, B6⟩ : Ad)) T  Fd21 (PySem.W.mg_of X G ad21) (Fd21.binds (ps := ["symbols"]) fun _ _ _ _ _ _ us hl => match us, hl with | [_], _ => rfl)
  have Fd22 := fun_mk (st := s__law_written) ld22 cd22 kd22
  have c__law_written := ok__law_written (P := l.prog) (w := w) (base := base) (A := (⟨C0, X0, B0, B1, B2, B3, B4, B5, B6⟩ : Ad)) T c__law_side Fd22 (PySem.W.mg_of X G ad22) (Fd22.binds (ps := ["alphabet", "variables", "rules"]) fun _ _ _ _ _ _ us hl => match us, hl with | [_, _, _], _ => rfl)
  have Fd23 := fun_mk (st := s__law_number) ld23 cd23 kd23
  have c__law_number := ok__law_number (P := l.prog) (w := w) (base := base) (A := (⟨C0, X0, B0, B1, B2, B3, B4, B5, B6⟩ : Ad)) T  Fd23 (PySem.W.mg_of X G ad23) (Fd23.binds (ps := ["word"]) fun _ _ _ _ _ _ us hl => match us, hl with | [_], _ => rfl)
  have Fd24 := fun_mk (st := s__law_read_symbol) ld24 cd24 kd24
  have c__law_read_symbol := ok__law_read_symbol (P := l.prog) (w := w) (base := base) (A := (⟨C0, X0, B0, B1, B2, B3, B4, B5, B6⟩ : Ad)) T c__law_number Fd24 (PySem.W.mg_of X G ad24) (Fd24.binds (ps := ["word", "alphabet", "variables"]) fun _ _ _ _ _ _ us hl => match us, hl with | [_, _, _], _ => rfl)
  have Fd25 := fun_mk (st := s__law_read_rule) ld25 cd25 kd25
  have c__law_read_rule := ok__law_read_rule (P := l.prog) (w := w) (base := base) (A := (⟨C0, X0, B0, B1, B2, B3, B4, B5, B6⟩ : Ad)) T c__law_read_symbol c__law_side Fd25 (PySem.W.mg_of X G ad25) (Fd25.binds (ps := ["line", "alphabet", "variables"]) fun _ _ _ _ _ _ us hl => match us, hl with | [_, _, _], _ => rfl)
  have Fd26 := fun_mk (st := s__law_read) ld26 cd26 kd26
  have c__law_read := ok__law_read (P := l.prog) (w := w) (base := base) (A := (⟨C0, X0, B0, B1, B2, B3, B4, B5, B6⟩ : Ad)) T c__law_is_alphabet c__law_number c__law_read_rule c__law_written Fd26 (PySem.W.mg_of X G ad26) (Fd26.binds (ps := ["string"]) fun _ _ _ _ _ _ us hl => match us, hl with | [_], _ => rfl)
  have Fd27 := fun_mk (st := s__law_word) ld27 cd27 kd27
  have c__law_word := ok__law_word (P := l.prog) (w := w) (base := base) (A := (⟨C0, X0, B0, B1, B2, B3, B4, B5, B6⟩ : Ad)) T  Fd27 (PySem.W.mg_of X G ad27) (Fd27.binds (ps := ["digit", "alphabet", "variables"]) fun _ _ _ _ _ _ us hl => match us, hl with | [_, _, _], _ => rfl)
  have Fd28 := fun_mk (st := s__law_changed_line) ld28 cd28 kd28
  have c__law_changed_line := ok__law_changed_line (P := l.prog) (w := w) (base := base) (A := (⟨C0, X0, B0, B1, B2, B3, B4, B5, B6⟩ : Ad)) T  Fd28 (PySem.W.mg_of X G ad28) (Fd28.binds (ps := ["line", "which", "digit", "word"]) fun _ _ _ _ _ _ us hl => match us, hl with | [_, _, _, _], _ => rfl)
  have Fd29 := fun_mk (st := s__law_changed) ld29 cd29 kd29
  have c__law_changed := ok__law_changed (P := l.prog) (w := w) (base := base) (A := (⟨C0, X0, B0, B1, B2, B3, B4, B5, B6⟩ : Ad)) T c__law_changed_line c__law_word Fd29 (PySem.W.mg_of X G ad29) (Fd29.binds (ps := ["string", "row", "alphabet", "variables"]) fun _ _ _ _ _ _ us hl => match us, hl with | [_, _, _, _], _ => rfl)
  have Fd30 := fun_mk (st := s__law_side_alike) ld30 cd30 kd30
  have c__law_side_alike := ok__law_side_alike (P := l.prog) (w := w) (base := base) (A := (⟨C0, X0, B0, B1, B2, B3, B4, B5, B6⟩ : Ad)) T c__law_whole Fd30 (PySem.W.mg_of X G ad30) (Fd30.binds (ps := ["told", "side"]) fun _ _ _ _ _ _ us hl => match us, hl with | [_, _], _ => rfl)
  have Fd31 := fun_mk (st := s__law_kept) ld31 cd31 kd31
  have c__law_kept := ok__law_kept (P := l.prog) (w := w) (base := base) (A := (⟨C0, X0, B0, B1, B2, B3, B4, B5, B6⟩ : Ad)) T c__law_side_alike c__law_whole Fd31 (PySem.W.mg_of X G ad31) (Fd31.binds (ps := ["grammar", "alphabet", "variables", "rules"]) fun _ _ _ _ _ _ us hl => match us, hl with | [_, _, _, _], _ => rfl)
  have Fd32 := fun_mk (st := s__law_parsed) ld32 cd32 kd32
  have c__law_parsed := ok__law_parsed (P := l.prog) (w := w) (base := base) (A := (⟨C0, X0, B0, B1, B2, B3, B4, B5, B6⟩ : Ad)) T c_parse_grammar Fd32 (PySem.W.mg_of X G ad32) (Fd32.binds (ps := ["string"]) fun _ _ _ _ _ _ us hl => match us, hl with | [_], _ => rfl)
  have Fd33 := fun_mk (st := s__law_formatted) ld33 cd33 kd33
  have c__law_formatted := ok__law_formatted (P := l.prog) (w := w) (base := base) (A := (⟨C0, X0, B0, B1, B2, B3, B4, B5, B6⟩ : Ad)) T c_format_grammar Fd33 (PySem.W.mg_of X G ad33) (Fd33.binds (ps := ["grammar", "string"]) fun _ _ _ _ _ _ us hl => match us, hl with | [_, _], _ => rfl)
  have Fd34 := fun_mk (st := s__law_read_alike) ld34 cd34 kd34
  have c__law_read_alike := ok__law_read_alike (P := l.prog) (w := w) (base := base) (A := (⟨C0, X0, B0, B1, B2, B3, B4, B5, B6⟩ : Ad)) T c_Grammar c__law_formatted c__law_kept c__law_parsed c__law_read c__law_whole e_Grammar Fd34 (PySem.W.mg_of X G ad34) (Fd34.binds (ps := ["string"]) fun _ _ _ _ _ _ us hl => match us, hl with | [_], _ => rfl)
  have Fd35 := fun_mk (st := s_law) ld35 cd35 kd35
  exact fnOk_true law_run (⟨C0, X0, B0, B1, B2, B3, B4, B5, B6⟩ : Ad) (okF_law (P := l.prog) (w := w) (base := base) (A := (⟨C0, X0, B0, B1, B2, B3, B4, B5, B6⟩ : Ad)) T c_Grammar c__law_alphabet c__law_cell c__law_changed c__law_digits c__law_formatted c__law_kept c__law_parsed c__law_read c__law_read_alike c__law_rule c__law_written Fd35)
theorem walk {l : PySem.W.OpenLaw} {q : Program} {loose : List Str} {XP : (Str → Option Value) → Heap → Prop} {YP : World → Heap → Prop} {d : DefRec} {K : Params → PySem.W.Frag} (hn : l.most = some 63) (hdf : d.params.defaults = [])
    (hY : ∀ (w : World) (h : Heap), YP w h → (K w.params).In h)
    (F : ∀ (w : World) (mg : Str → Option Value) (fa : Addr) (h : Heap), (K w.params).In h → h.Ns mainGlobals mg → mg d.name = some (.ref fa) →
      ∃ fd : FuncData, (∀ (s : Shared) (u : Value), BindsTo s fd ⟨[u], []⟩ [("script", u)]) ∧ ∀ base : Heap, (K w.params).In base → base.Ns mainGlobals mg → FnOk l.prog w (K w.params) mg base CX0 9 fa fd ["script"] (spTrue (K w.params))) :
    PySem.W.WalkO q loose XP YP l.row.toRowW d [] (fun f vs => PySem.call f vs) :=
  L2.walk_of (n := 63) (k := 9) (x := "script") (CX := fun _ => CX0) (sp := fun w => spTrue (K w.params)) hn (by decide) hdf ⟨rfl, by decide, by decide⟩ hY F (fun _ _ a ns hl _ hS => ⟨a, ns, rfl, hl, hS, fun _ => rfl⟩) fun _ _ _ _ _ z => z
end K43
open PySem PySem.W PyProof.Rows
set_option maxRecDepth 100000 in
set_option maxHeartbeats 0 in
theorem PySem.Challenge.cw_fourleashes_k43_grammar_notation_holds : PySem.Challenge.rw_fourleashes_k43_grammar_notation.Holds := by
  w_on; o_law; k_head; (case hw => w_witness2)
  k_fill
  refine K43.walk (l := PySem.Challenge.rw_fourleashes_k43_grammar_notation) rfl rfl (fun w h Y => PySem.W.kIn_of Y) ?F
  case F =>
    intro w mg fa h KX G hmg
    refine' K43.all_mk KX G hmg ?aC0 ?ai0 ?ii0 ?li0 ?ci0 ?ki0 ?pgC0 ?hdC0 ?poC0 ?saC0 ?mkC0 ?kcC0 ?nC0_alphabet ?nC0_variables ?nC0_rules ?aq0 ?iq0 ?lq0 ?cq0 ?kq0 ?aX0 ?LX0 ?rvX0 ?ax0 ?tx0 ?lx0 ?cx0 ?kx0 ?saX0 ?gaX0 ?ggX0 ?kCX0 ?eCX0 ?tCX0 ?hCX0 ?iCX0 ?sCX0 ?nX0_index ?aB0 ?eCB0 ?iCB0 ?tCB0 ?aB1 ?eCB1 ?iCB1 ?tCB1 ?aB2 ?eCB2 ?iCB2 ?tCB2 ?aB3 ?eCB3 ?iCB3 ?tCB3 ?aB4 ?eCB4 ?iCB4 ?tCB4 ?aB5 ?eCB5 ?iCB5 ?tCB5 ?aB6 ?eCB6 ?iCB6 ?tCB6 ?atX0 ?gtX0 ?tkX0 ?mrX0 ?atC0 ?gtC0 ?tkC0 ?mrC0 ?uBadLine_qBadAlphabet ?neBadLine_qBadAlphabet ?uBadLine_qBadForm ?neBadLine_qBadForm ?uBadLine_qBadRow ?neBadLine_qBadRow ?uBadLine_qBadRule ?neBadLine_qBadRule ?uBadLine_qBadText ?neBadLine_qBadText ?uBadLine_qBadVariables ?neBadLine_qBadVariables ?uBadLine_qValueError ?uBadLine_xLeashError ?ad0 ?ld0 ?cd0 ?kd0 ?ad1 ?ld1 ?cd1 ?kd1 ?ad2 ?ld2 ?cd2 ?kd2 ?ad3 ?ld3 ?cd3 ?kd3 ?ad4 ?ld4 ?cd4 ?kd4 ?ad5 ?ld5 ?cd5 ?kd5 ?ad6 ?ld6 ?cd6 ?kd6 ?ad7 ?ld7 ?cd7 ?kd7 ?ad8 ?ld8 ?cd8 ?kd8 ?ad9 ?ld9 ?cd9 ?kd9 ?ad10 ?ld10 ?cd10 ?kd10 ?ad11 ?ld11 ?cd11 ?kd11 ?ad12 ?ld12 ?cd12 ?kd12 ?ad13 ?ld13 ?cd13 ?kd13 ?ad14 ?ld14 ?cd14 ?kd14 ?ad15 ?ld15 ?cd15 ?kd15 ?ad16 ?ld16 ?cd16 ?kd16 ?ad17 ?ld17 ?cd17 ?kd17 ?ad18 ?ld18 ?cd18 ?kd18 ?ad19 ?ld19 ?cd19 ?kd19 ?ad20 ?ld20 ?cd20 ?kd20 ?ad21 ?ld21 ?cd21 ?kd21 ?ad22 ?ld22 ?cd22 ?kd22 ?ad23 ?ld23 ?cd23 ?kd23 ?ad24 ?ld24 ?cd24 ?kd24 ?ad25 ?ld25 ?cd25 ?kd25 ?ad26 ?ld26 ?cd26 ?kd26 ?ad27 ?ld27 ?cd27 ?kd27 ?ad28 ?ld28 ?cd28 ?kd28 ?ad29 ?ld29 ?cd29 ?kd29 ?ad30 ?ld30 ?cd30 ?kd30 ?ad31 ?ld31 ?cd31 ?kd31 ?ad32 ?ld32 ?cd32 ?kd32 ?ad33 ?ld33 ?cd33 ?kd33 ?ad34 ?ld34 ?cd34 ?kd34 ?ad35 ?ld35 ?cd35 ?kd35 ?z_ValueError ?z_bool ?z_enumerate ?z_int ?z_isinstance ?z_len ?z_list ?z_min ?z_range ?z_str ?z_tuple ?z_DIGITS ?z_LETTERS
    (case aC0 => first | k_is | (decide +kernel) | rfl | decide)
    (case ai0 => first | k_is | (decide +kernel) | rfl | decide)
    (case ii0 => first | k_is | (decide +kernel) | rfl | decide)
    (case li0 => first | k_is | (decide +kernel) | rfl | decide)
    (case ci0 => first | k_is | (decide +kernel) | rfl | decide)
    (case ki0 => first | k_is | (decide +kernel) | rfl | decide)
    (case pgC0 => first | k_is | (decide +kernel) | rfl | decide)
    (case hdC0 => first | k_is | (decide +kernel) | rfl | decide)
    (case poC0 => first | k_is | (decide +kernel) | rfl | decide)
    (case saC0 => first | k_is | (decide +kernel) | rfl | decide)
    (case mkC0 => first | k_is | (decide +kernel) | rfl | decide)
    (case kcC0 => first | k_is | (decide +kernel) | rfl | decide)
    (case nC0_alphabet => first | k_is | (decide +kernel) | rfl | decide)
    (case nC0_variables => first | k_is | (decide +kernel) | rfl | decide)
    (case nC0_rules => first | k_is | (decide +kernel) | rfl | decide)
    (case aq0 => first | k_is | (decide +kernel) | rfl | decide)
    (case iq0 => first | k_is | (decide +kernel) | rfl | decide)
    (case lq0 => first | k_is | (decide +kernel) | rfl | decide)
    (case cq0 => first | k_is | (decide +kernel) | rfl | decide)
    (case kq0 => first | k_is | (decide +kernel) | rfl | decide)
    (case aX0 => first | k_is | (decide +kernel) | rfl | decide)
    (case LX0 => first | k_is | (decide +kernel) | rfl | decide)
    (case rvX0 => first | k_is | (decide +kernel) | rfl | decide)
    (case ax0 => first | k_is | (decide +kernel) | rfl | decide)
    (case tx0 => first | k_is | (decide +kernel) | rfl | decide)
    (case lx0 => first | k_is | (decide +kernel) | rfl | decide)
    (case cx0 => first | k_is | (decide +kernel) | rfl | decide)
    (case kx0 => first | k_is | (decide +kernel) | rfl | decide)
    (case saX0 => first | k_is | (decide +kernel) | rfl | decide)
    (case gaX0 => first | k_is | (decide +kernel) | rfl | decide)
    (case ggX0 => first | k_is | (decide +kernel) | rfl | decide)
    (case kCX0 => first | k_is | (decide +kernel) | rfl | decide)
    (case eCX0 => first | k_is | (decide +kernel) | rfl | decide)
    (case tCX0 => first | k_is | (decide +kernel) | rfl | decide)
    (case hCX0 => first | k_is | (decide +kernel) | rfl | decide)
    (case iCX0 => first | k_is | (decide +kernel) | rfl | decide)
    (case sCX0 => first | k_is | (decide +kernel) | rfl | decide)
    (case nX0_index => first | k_is | (decide +kernel) | rfl | decide)
    (case aB0 => first | k_is | (decide +kernel) | rfl | decide)
    (case eCB0 => first | k_is | (decide +kernel) | rfl | decide)
    (case iCB0 => first | k_is | (decide +kernel) | rfl | decide)
    (case tCB0 => first | k_is | (decide +kernel) | rfl | decide)
    (case aB1 => first | k_is | (decide +kernel) | rfl | decide)
    (case eCB1 => first | k_is | (decide +kernel) | rfl | decide)
    (case iCB1 => first | k_is | (decide +kernel) | rfl | decide)
    (case tCB1 => first | k_is | (decide +kernel) | rfl | decide)
    (case aB2 => first | k_is | (decide +kernel) | rfl | decide)
    (case eCB2 => first | k_is | (decide +kernel) | rfl | decide)
    (case iCB2 => first | k_is | (decide +kernel) | rfl | decide)
    (case tCB2 => first | k_is | (decide +kernel) | rfl | decide)
    (case aB3 => first | k_is | (decide +kernel) | rfl | decide)
    (case eCB3 => first | k_is | (decide +kernel) | rfl | decide)
    (case iCB3 => first | k_is | (decide +kernel) | rfl | decide)
    (case tCB3 => first | k_is | (decide +kernel) | rfl | decide)
    (case aB4 => first | k_is | (decide +kernel) | rfl | decide)
    (case eCB4 => first | k_is | (decide +kernel) | rfl | decide)
    (case iCB4 => first | k_is | (decide +kernel) | rfl | decide)
    (case tCB4 => first | k_is | (decide +kernel) | rfl | decide)
    (case aB5 => first | k_is | (decide +kernel) | rfl | decide)
    (case eCB5 => first | k_is | (decide +kernel) | rfl | decide)
    (case iCB5 => first | k_is | (decide +kernel) | rfl | decide)
    (case tCB5 => first | k_is | (decide +kernel) | rfl | decide)
    (case aB6 => first | k_is | (decide +kernel) | rfl | decide)
    (case eCB6 => first | k_is | (decide +kernel) | rfl | decide)
    (case iCB6 => first | k_is | (decide +kernel) | rfl | decide)
    (case tCB6 => first | k_is | (decide +kernel) | rfl | decide)
    (case atX0 => first | k_is | (decide +kernel) | rfl | decide)
    (case gtX0 => first | k_is | (decide +kernel) | rfl | decide)
    (case tkX0 => first | k_is | (decide +kernel) | rfl | decide)
    (case mrX0 => first | k_is | (decide +kernel) | rfl | decide)
    (case atC0 => first | k_is | (decide +kernel) | rfl | decide)
    (case gtC0 => first | k_is | (decide +kernel) | rfl | decide)
    (case tkC0 => first | k_is | (decide +kernel) | rfl | decide)
    (case mrC0 => first | k_is | (decide +kernel) | rfl | decide)
    (case uBadLine_qBadAlphabet => first | k_is | (decide +kernel) | rfl | decide)
    (case neBadLine_qBadAlphabet => first | k_is | (decide +kernel) | rfl | decide)
    (case uBadLine_qBadForm => first | k_is | (decide +kernel) | rfl | decide)
    (case neBadLine_qBadForm => first | k_is | (decide +kernel) | rfl | decide)
    (case uBadLine_qBadRow => first | k_is | (decide +kernel) | rfl | decide)
    (case neBadLine_qBadRow => first | k_is | (decide +kernel) | rfl | decide)
    (case uBadLine_qBadRule => first | k_is | (decide +kernel) | rfl | decide)
    (case neBadLine_qBadRule => first | k_is | (decide +kernel) | rfl | decide)
    (case uBadLine_qBadText => first | k_is | (decide +kernel) | rfl | decide)
    (case neBadLine_qBadText => first | k_is | (decide +kernel) | rfl | decide)
    (case uBadLine_qBadVariables => first | k_is | (decide +kernel) | rfl | decide)
    (case neBadLine_qBadVariables => first | k_is | (decide +kernel) | rfl | decide)
    (case uBadLine_qValueError => first | k_is | (decide +kernel) | rfl | decide)
    (case uBadLine_xLeashError => first | k_is | (decide +kernel) | rfl | decide)
    (case ad0 => first | k_is | (decide +kernel) | rfl | decide)
    (case ld0 => first | k_is | (decide +kernel) | rfl | decide)
    (case cd0 => first | k_is | (decide +kernel) | rfl | decide)
    (case kd0 => first | k_is | (decide +kernel) | rfl | decide)
    (case ad1 => first | k_is | (decide +kernel) | rfl | decide)
    (case ld1 => first | k_is | (decide +kernel) | rfl | decide)
    (case cd1 => first | k_is | (decide +kernel) | rfl | decide)
    (case kd1 => first | k_is | (decide +kernel) | rfl | decide)
    (case ad2 => first | k_is | (decide +kernel) | rfl | decide)
    (case ld2 => first | k_is | (decide +kernel) | rfl | decide)
    (case cd2 => first | k_is | (decide +kernel) | rfl | decide)
    (case kd2 => first | k_is | (decide +kernel) | rfl | decide)
    (case ad3 => first | k_is | (decide +kernel) | rfl | decide)
    (case ld3 => first | k_is | (decide +kernel) | rfl | decide)
    (case cd3 => first | k_is | (decide +kernel) | rfl | decide)
    (case kd3 => first | k_is | (decide +kernel) | rfl | decide)
    (case ad4 => first | k_is | (decide +kernel) | rfl | decide)
    (case ld4 => first | k_is | (decide +kernel) | rfl | decide)
    (case cd4 => first | k_is | (decide +kernel) | rfl | decide)
    (case kd4 => first | k_is | (decide +kernel) | rfl | decide)
    (case ad5 => first | k_is | (decide +kernel) | rfl | decide)
    (case ld5 => first | k_is | (decide +kernel) | rfl | decide)
    (case cd5 => first | k_is | (decide +kernel) | rfl | decide)
    (case kd5 => first | k_is | (decide +kernel) | rfl | decide)
    (case ad6 => first | k_is | (decide +kernel) | rfl | decide)
    (case ld6 => first | k_is | (decide +kernel) | rfl | decide)
    (case cd6 => first | k_is | (decide +kernel) | rfl | decide)
    (case kd6 => first | k_is | (decide +kernel) | rfl | decide)
    (case ad7 => first | k_is | (decide +kernel) | rfl | decide)
    (case ld7 => first | k_is | (decide +kernel) | rfl | decide)
    (case cd7 => first | k_is | (decide +kernel) | rfl | decide)
    (case kd7 => first | k_is | (decide +kernel) | rfl | decide)
    (case ad8 => first | k_is | (decide +kernel) | rfl | decide)
    (case ld8 => first | k_is | (decide +kernel) | rfl | decide)
    (case cd8 => first | k_is | (decide +kernel) | rfl | decide)
    (case kd8 => first | k_is | (decide +kernel) | rfl | decide)
    (case ad9 => first | k_is | (decide +kernel) | rfl | decide)
    (case ld9 => first | k_is | (decide +kernel) | rfl | decide)
    (case cd9 => first | k_is | (decide +kernel) | rfl | decide)
    (case kd9 => first | k_is | (decide +kernel) | rfl | decide)
    (case ad10 => first | k_is | (decide +kernel) | rfl | decide)
    (case ld10 => first | k_is | (decide +kernel) | rfl | decide)
    (case cd10 => first | k_is | (decide +kernel) | rfl | decide)
    (case kd10 => first | k_is | (decide +kernel) | rfl | decide)
    (case ad11 => first | k_is | (decide +kernel) | rfl | decide)
    (case ld11 => first | k_is | (decide +kernel) | rfl | decide)
    (case cd11 => first | k_is | (decide +kernel) | rfl | decide)
    (case kd11 => first | k_is | (decide +kernel) | rfl | decide)
    (case ad12 => first | k_is | (decide +kernel) | rfl | decide)
    (case ld12 => first | k_is | (decide +kernel) | rfl | decide)
    (case cd12 => first | k_is | (decide +kernel) | rfl | decide)
    (case kd12 => first | k_is | (decide +kernel) | rfl | decide)
    (case ad13 => first | k_is | (decide +kernel) | rfl | decide)
    (case ld13 => first | k_is | (decide +kernel) | rfl | decide)
    (case cd13 => first | k_is | (decide +kernel) | rfl | decide)
    (case kd13 => first | k_is | (decide +kernel) | rfl | decide)
    (case ad14 => first | k_is | (decide +kernel) | rfl | decide)
    (case ld14 => first | k_is | (decide +kernel) | rfl | decide)
    (case cd14 => first | k_is | (decide +kernel) | rfl | decide)
    (case kd14 => first | k_is | (decide +kernel) | rfl | decide)
    (case ad15 => first | k_is | (decide +kernel) | rfl | decide)
    (case ld15 => first | k_is | (decide +kernel) | rfl | decide)
    (case cd15 => first | k_is | (decide +kernel) | rfl | decide)
    (case kd15 => first | k_is | (decide +kernel) | rfl | decide)
    (case ad16 => first | k_is | (decide +kernel) | rfl | decide)
    (case ld16 => first | k_is | (decide +kernel) | rfl | decide)
    (case cd16 => first | k_is | (decide +kernel) | rfl | decide)
    (case kd16 => first | k_is | (decide +kernel) | rfl | decide)
    (case ad17 => first | k_is | (decide +kernel) | rfl | decide)
    (case ld17 => first | k_is | (decide +kernel) | rfl | decide)
    (case cd17 => first | k_is | (decide +kernel) | rfl | decide)
    (case kd17 => first | k_is | (decide +kernel) | rfl | decide)
    (case ad18 => first | k_is | (decide +kernel) | rfl | decide)
    (case ld18 => first | k_is | (decide +kernel) | rfl | decide)
    (case cd18 => first | k_is | (decide +kernel) | rfl | decide)
    (case kd18 => first | k_is | (decide +kernel) | rfl | decide)
    (case ad19 => first | k_is | (decide +kernel) | rfl | decide)
    (case ld19 => first | k_is | (decide +kernel) | rfl | decide)
    (case cd19 => first | k_is | (decide +kernel) | rfl | decide)
    (case kd19 => first | k_is | (decide +kernel) | rfl | decide)
    (case ad20 => first | k_is | (decide +kernel) | rfl | decide)
    (case ld20 => first | k_is | (decide +kernel) | rfl | decide)
    (case cd20 => first | k_is | (decide +kernel) | rfl | decide)
    (case kd20 => first | k_is | (decide +kernel) | rfl | decide)
    (case ad21 => first | k_is | (decide +kernel) | rfl | decide)
    (case ld21 => first | k_is | (decide +kernel) | rfl | decide)
    (case cd21 => first | k_is | (decide +kernel) | rfl | decide)
    (case kd21 => first | k_is | (decide +kernel) | rfl | decide)
    (case ad22 => first | k_is | (decide +kernel) | rfl | decide)
    (case ld22 => first | k_is | (decide +kernel) | rfl | decide)
    (case cd22 => first | k_is | (decide +kernel) | rfl | decide)
    (case kd22 => first | k_is | (decide +kernel) | rfl | decide)
    (case ad23 => first | k_is | (decide +kernel) | rfl | decide)
    (case ld23 => first | k_is | (decide +kernel) | rfl | decide)
    (case cd23 => first | k_is | (decide +kernel) | rfl | decide)
    (case kd23 => first | k_is | (decide +kernel) | rfl | decide)
    (case ad24 => first | k_is | (decide +kernel) | rfl | decide)
    (case ld24 => first | k_is | (decide +kernel) | rfl | decide)
    (case cd24 => first | k_is | (decide +kernel) | rfl | decide)
    (case kd24 => first | k_is | (decide +kernel) | rfl | decide)
    (case ad25 => first | k_is | (decide +kernel) | rfl | decide)
    (case ld25 => first | k_is | (decide +kernel) | rfl | decide)
    (case cd25 => first | k_is | (decide +kernel) | rfl | decide)
    (case kd25 => first | k_is | (decide +kernel) | rfl | decide)
    (case ad26 => first | k_is | (decide +kernel) | rfl | decide)
    (case ld26 => first | k_is | (decide +kernel) | rfl | decide)
    (case cd26 => first | k_is | (decide +kernel) | rfl | decide)
    (case kd26 => first | k_is | (decide +kernel) | rfl | decide)
    (case ad27 => first | k_is | (decide +kernel) | rfl | decide)
    (case ld27 => first | k_is | (decide +kernel) | rfl | decide)
    (case cd27 => first | k_is | (decide +kernel) | rfl | decide)
    (case kd27 => first | k_is | (decide +kernel) | rfl | decide)
    (case ad28 => first | k_is | (decide +kernel) | rfl | decide)
    (case ld28 => first | k_is | (decide +kernel) | rfl | decide)
    (case cd28 => first | k_is | (decide +kernel) | rfl | decide)
    (case kd28 => first | k_is | (decide +kernel) | rfl | decide)
    (case ad29 => first | k_is | (decide +kernel) | rfl | decide)
    (case ld29 => first | k_is | (decide +kernel) | rfl | decide)
    (case cd29 => first | k_is | (decide +kernel) | rfl | decide)
    (case kd29 => first | k_is | (decide +kernel) | rfl | decide)
    (case ad30 => first | k_is | (decide +kernel) | rfl | decide)
    (case ld30 => first | k_is | (decide +kernel) | rfl | decide)
    (case cd30 => first | k_is | (decide +kernel) | rfl | decide)
    (case kd30 => first | k_is | (decide +kernel) | rfl | decide)
    (case ad31 => first | k_is | (decide +kernel) | rfl | decide)
    (case ld31 => first | k_is | (decide +kernel) | rfl | decide)
    (case cd31 => first | k_is | (decide +kernel) | rfl | decide)
    (case kd31 => first | k_is | (decide +kernel) | rfl | decide)
    (case ad32 => first | k_is | (decide +kernel) | rfl | decide)
    (case ld32 => first | k_is | (decide +kernel) | rfl | decide)
    (case cd32 => first | k_is | (decide +kernel) | rfl | decide)
    (case kd32 => first | k_is | (decide +kernel) | rfl | decide)
    (case ad33 => first | k_is | (decide +kernel) | rfl | decide)
    (case ld33 => first | k_is | (decide +kernel) | rfl | decide)
    (case cd33 => first | k_is | (decide +kernel) | rfl | decide)
    (case kd33 => first | k_is | (decide +kernel) | rfl | decide)
    (case ad34 => first | k_is | (decide +kernel) | rfl | decide)
    (case ld34 => first | k_is | (decide +kernel) | rfl | decide)
    (case cd34 => first | k_is | (decide +kernel) | rfl | decide)
    (case kd34 => first | k_is | (decide +kernel) | rfl | decide)
    (case ad35 => first | k_is | (decide +kernel) | rfl | decide)
    (case ld35 => first | k_is | (decide +kernel) | rfl | decide)
    (case cd35 => first | k_is | (decide +kernel) | rfl | decide)
    (case kd35 => first | k_is | (decide +kernel) | rfl | decide)
    (case z_ValueError => first | k_is | (decide +kernel) | rfl | decide)
    (case z_bool => first | k_is | (decide +kernel) | rfl | decide)
    (case z_enumerate => first | k_is | (decide +kernel) | rfl | decide)
    (case z_int => first | k_is | (decide +kernel) | rfl | decide)
    (case z_isinstance => first | k_is | (decide +kernel) | rfl | decide)
    (case z_len => first | k_is | (decide +kernel) | rfl | decide)
    (case z_list => first | k_is | (decide +kernel) | rfl | decide)
    (case z_min => first | k_is | (decide +kernel) | rfl | decide)
    (case z_range => first | k_is | (decide +kernel) | rfl | decide)
    (case z_str => first | k_is | (decide +kernel) | rfl | decide)
    (case z_tuple => first | k_is | (decide +kernel) | rfl | decide)
    (case z_DIGITS => first | k_is | (decide +kernel) | rfl | decide)
    (case z_LETTERS => first | k_is | (decide +kernel) | rfl | decide)
end
#print axioms PySem.Challenge.cw_fourleashes_k43_grammar_notation_holds
