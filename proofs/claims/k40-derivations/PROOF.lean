import PyProof.Rows.All
import Wide.All
import OpenK.AllK
import Wide.FinOn
import HandS.ForMost
import HandS.TupAny
import HandS.IsInst
import HandS.Deep
import HandS.WordsExc
import HandS.Wide
import HandS.RaiseMore
import HandS.SetFor
import HandS.Text
import HandS.ExcIs
import HandS.Conv
import KE.GoesMore
import KE.GoesEnum
import HandS.ExcInit
import HandS.ExcField
import HandS.ExcOwn
import KE.KExcIs
import HandS.TryOnly
import PySem.Challenge.RW_fourleashes_k40_derivations
set_option Elab.async false
set_option linter.all false
set_option maxRecDepth 100000
set_option maxHeartbeats 8000000
section
/-! VA: a value layer over the hand layer: data (D), what denotes it (Den), worlds (Wd), cells (Cell), readings by functions of cells (VT, VB, VA, VN). -/
namespace VL
open PySem PySem.Spec PyProof.Rows L2

inductive D where
  | non | bl (b : Bool) | int (i : Int) | str (x : Str)
  | tup (ds : List D) | lst (ds : List D)
  /-- a list that is only read (the script, a list of the top) -/
  | scr (ds : List D)
  /-- an instance of the class at C -/
  | ins (C : Addr) (ns : List Str) (ds : List D)

mutual
inductive Den (K : PySem.W.Frag) (H : Hp) : V → D → Prop
  | non : Den K H .non .non
  | bl (b : Bool) : Den K H (.bl b) (.bl b)
  | int (i : Int) : Den K H (.int i) (.int i)
  | str (x : Str) : Den K H (.str x) (.str x)
  | tup {a : Addr} {xs : List V} {ds : List D} : SqT K H a xs → DenL K H xs ds → Den K H (.ref a) (.tup ds)
  | lst {a : Addr} {xs : List V} {ds : List D} : H a = some (.lst xs) → DenL K H xs ds → Den K H (.ref a) (.lst ds)
  | scr {a : Addr} {xs : List V} {ds : List D} : SqL K H a xs → DenL K H xs ds → Den K H (.ref a) (.scr ds)
  | ins {a C dx : Addr} {fs : List (Str × V)} {ns : List Str} {ds : List D} : H a = some (.ins C dx fs) → fs.map (·.1) = ns → DenL K H (fs.map (·.2)) ds → Den K H (.ref a) (.ins C ns ds)
inductive DenL (K : PySem.W.Frag) (H : Hp) : List V → List D → Prop
  | nil : DenL K H [] []
  | cons {v : V} {vs : List V} {d : D} {ds : List D} : Den K H v d → DenL K H vs ds → DenL K H (v :: vs) (d :: ds)
end

section
variable {K : PySem.W.Frag} {H H' : Hp}
theorem sqT_same (e : Same H H') {a : Addr} {xs : List V} (h : SqT K H a xs) : SqT K H' a xs := by
  rcases h with (h | ⟨o, h⟩) | h
  · exact .inl (.inl (e _ _ h))
  · exact .inl (.inr ⟨o, e _ _ h⟩)
  · exact .inr h
mutual
theorem Den.mono (e : Same H H') : ∀ (d : D) (v : V), Den K H v d → Den K H' v d
  | .non, _, h => by cases h; exact .non
  | .bl b, _, h => by cases h; exact .bl b
  | .int i, _, h => by cases h; exact .int i
  | .str x, _, h => by cases h; exact .str x
  | .tup ds, _, h => by
    cases h with
    | tup h1 h2 => exact .tup (sqT_same e h1) (DenL.mono e ds _ h2)
  | .lst ds, _, h => by
    cases h with
    | lst h1 h2 => exact .lst (e _ _ h1) (DenL.mono e ds _ h2)
  | .scr ds, _, h => by
    cases h with
    | scr h1 h2 => exact .scr (e.seq h1) (DenL.mono e ds _ h2)
  | .ins C ns ds, _, h => by
    cases h with
    | ins h1 h2 h3 => exact .ins (e _ _ h1) h2 (DenL.mono e ds _ h3)
theorem DenL.mono (e : Same H H') : ∀ (ds : List D) (vs : List V), DenL K H vs ds → DenL K H' vs ds
  | [], _, h => by cases h; exact .nil
  | d :: ds, _, h => by
    cases h with
    | cons h1 h2 => exact .cons (Den.mono e d _ h1) (DenL.mono e ds _ h2)
end
theorem Den.up {v : V} {d : D} (h : Den K H v d) (e : Same H H') : Den K H' v d := Den.mono e d v h
theorem DenL.up {v : List V} {d : List D} (h : DenL K H v d) (e : Same H H') : DenL K H' v d := DenL.mono e d v h
theorem DenL.length : ∀ {ds : List D} {vs : List V}, DenL K H vs ds → vs.length = ds.length
  | [], _, h => by cases h; rfl
  | d :: ds, _, h => by
    cases h with
    | cons h1 h2 => simp [DenL.length h2]
theorem DenL.append : ∀ {ds es : List D} {vs us : List V}, DenL K H vs ds → DenL K H us es → DenL K H (vs ++ us) (ds ++ es)
  | [], _, _, _, h, g => by cases h; exact g
  | d :: ds, _, _, _, h, g => by
    cases h with
    | cons h1 h2 => exact .cons h1 (DenL.append h2 g)
theorem DenL.take : ∀ {ds : List D} {vs : List V} (n : Nat), DenL K H vs ds → DenL K H (vs.take n) (ds.take n)
  | _, _, 0, _ => by simp; exact .nil
  | [], _, n + 1, h => by cases h; exact .nil
  | d :: ds, _, n + 1, h => by
    cases h with
    | cons h1 h2 => exact .cons h1 (DenL.take n h2)
theorem DenL.drop : ∀ {ds : List D} {vs : List V} (n : Nat), DenL K H vs ds → DenL K H (vs.drop n) (ds.drop n)
  | _, _, 0, h => by simpa using h
  | [], _, n + 1, h => by cases h; exact .nil
  | d :: ds, _, n + 1, h => by
    cases h with
    | cons h1 h2 => exact DenL.drop n h2
theorem DenL.get : ∀ {ds : List D} {vs : List V} {i : Nat} {d : D}, DenL K H vs ds → ds[i]? = some d → ∃ v, vs[i]? = some v ∧ Den K H v d
  | [], _, _, _, h, g => by simp at g
  | d :: ds, _, 0, _, h, g => by
    cases h with
    | cons h1 h2 => simp at g; subst g; exact ⟨_, rfl, h1⟩
  | d :: ds, _, i + 1, e, h, g => by
    cases h with
    | cons h1 h2 =>
      obtain ⟨v, h3, h4⟩ := DenL.get (i := i) (d := e) h2 (by simpa using g)
      exact ⟨v, by simpa using h3, h4⟩
theorem DenL.getV : ∀ {ds : List D} {vs : List V} {i : Nat} {v : V}, DenL K H vs ds → vs[i]? = some v → ∃ d, ds[i]? = some d ∧ Den K H v d
  | [], _, _, _, h, g => by cases h; simp at g
  | d :: ds, _, 0, _, h, g => by
    cases h with
    | cons h1 h2 => simp at g; subst g; exact ⟨_, rfl, h1⟩
  | d :: ds, _, i + 1, e, h, g => by
    cases h with
    | cons h1 h2 =>
      obtain ⟨v, h3, h4⟩ := DenL.getV (i := i) (v := e) h2 (by simpa using g)
      exact ⟨v, by simpa using h3, h4⟩
theorem DenL.set : ∀ {ds : List D} {vs : List V} (i : Nat) {v : V} {d : D}, DenL K H vs ds → Den K H v d → DenL K H (vs.set i v) (ds.set i d)
  | [], _, _, _, _, h, _ => by cases h; exact .nil
  | d :: ds, _, 0, _, _, h, g => by
    cases h with
    | cons h1 h2 => exact .cons g h2
  | d :: ds, _, i + 1, _, _, h, g => by
    cases h with
    | cons h1 h2 => exact .cons h1 (DenL.set i h2 g)
theorem DenL.reverse : ∀ {ds : List D} {vs : List V}, DenL K H vs ds → DenL K H vs.reverse ds.reverse
  | [], _, h => by cases h; exact .nil
  | d :: ds, _, h => by
    cases h with
    | cons h1 h2 => rw [List.reverse_cons, List.reverse_cons]; exact DenL.append (DenL.reverse h2) (.cons h1 .nil)
theorem DenL.dropLast {ds : List D} {vs : List V} (h : DenL K H vs ds) : DenL K H vs.dropLast ds.dropLast := by
  rw [List.dropLast_eq_take, List.dropLast_eq_take, h.length]
  exact DenL.take _ h
theorem DenL.eraseIdx : ∀ {ds : List D} {vs : List V} (i : Nat), DenL K H vs ds → DenL K H (vs.eraseIdx i) (ds.eraseIdx i)
  | [], _, _, h => by cases h; exact .nil
  | d :: ds, _, 0, h => by
    cases h with
    | cons h1 h2 => exact h2
  | d :: ds, _, i + 1, h => by
    cases h with
    | cons h1 h2 => exact .cons h1 (DenL.eraseIdx i h2)
theorem DenL.rep {ds : List D} {vs : List V} (h : DenL K H vs ds) : ∀ n : Nat, DenL K H (List.replicate n vs).flatten (List.replicate n ds).flatten
  | 0 => .nil
  | n + 1 => by
    rw [List.replicate_succ, List.replicate_succ, List.flatten_cons, List.flatten_cons]
    exact DenL.append h (DenL.rep h n)
theorem DenL.ints : ∀ {ns : List Int} {vs : List V}, DenL K H vs (ns.map D.int) → vs = ns.map V.int
  | [], _, h => by cases h; rfl
  | n :: ns, _, h => by
    cases h with
    | cons h1 h2 => cases h1; rw [DenL.ints h2]; rfl
theorem DenL.of_ints : ∀ (ns : List Int), DenL K H (ns.map V.int) (ns.map D.int)
  | [] => .nil
  | n :: ns => .cons (.int n) (DenL.of_ints ns)
theorem DenL.strs : ∀ {ns : List Str} {vs : List V}, DenL K H vs (ns.map D.str) → vs = ns.map V.str
  | [], _, h => by cases h; rfl
  | n :: ns, _, h => by
    cases h with
    | cons h1 h2 => cases h1; rw [DenL.strs h2]; rfl
theorem DenL.of_strs : ∀ (ns : List Str), DenL K H (ns.map V.str) (ns.map D.str)
  | [] => .nil
  | n :: ns => .cons (.str n) (DenL.of_strs ns)
end

/-- scalars -/
def D.scal : D → Bool
  | .non => true | .bl _ => true | .int _ => true | .str _ => true | _ => false
def D.toV : D → V
  | .bl b => .bl b | .int i => .int i | .str x => .str x | _ => .non
theorem den_scal {K : PySem.W.Frag} {H : Hp} {v : V} {d : D} (h : Den K H v d) (s : d.scal = true) : v = d.toV := by
  cases h <;> first | rfl | (simp [D.scal] at s)
theorem scal_den {K : PySem.W.Frag} {H : Hp} {d : D} (s : d.scal = true) : Den K H d.toV d := by
  cases d <;> simp [D.scal] at s
  · exact .non
  · exact .bl _
  · exact .int _
  · exact .str _

/-! ### plain data, for == -/
mutual
def D.py : D → Option PyData
  | .non => some .none | .bl b => some (.bool b) | .int i => some (.int i) | .str x => some (.str x)
  | .tup ds => (D.pyL ds).map .tuple
  | .lst ds => (D.pyL ds).map .list
  | .scr ds => (D.pyL ds).map .list
  | .ins _ _ _ => none
def D.pyL : List D → Option (List PyData)
  | [] => some []
  | d :: ds => match D.py d with
    | some p => match D.pyL ds with
      | some ps => some (p :: ps)
      | none => none
    | none => none
end
section
variable {K : PySem.W.Frag} {H : Hp}
mutual
theorem Den.dp : ∀ (d : D) (v : V) (p : PyData), Den K H v d → D.py d = some p → Dp K H v p
  | .non, _, _, h, e => by cases h; simp [D.py] at e; subst e; exact .non
  | .bl b, _, _, h, e => by cases h; simp [D.py] at e; subst e; exact .bl b
  | .int i, _, _, h, e => by cases h; simp [D.py] at e; subst e; exact .int i
  | .str x, _, _, h, e => by cases h; simp [D.py] at e; subst e; exact .str x
  | .tup ds, _, _, h, e => by
    cases h with
    | tup h1 h2 =>
      simp only [D.py, Option.map_eq_some_iff] at e
      obtain ⟨ps, e1, e2⟩ := e
      subst e2
      exact .tup h1 (DenL.dp ds _ ps h2 e1)
  | .lst ds, _, _, h, e => by
    cases h with
    | lst h1 h2 =>
      simp only [D.py, Option.map_eq_some_iff] at e
      obtain ⟨ps, e1, e2⟩ := e
      subst e2
      exact .lst (SqL.of h1) (DenL.dp ds _ ps h2 e1)
  | .scr ds, _, _, h, e => by
    cases h with
    | scr h1 h2 =>
      simp only [D.py, Option.map_eq_some_iff] at e
      obtain ⟨ps, e1, e2⟩ := e
      subst e2
      exact .lst h1 (DenL.dp ds _ ps h2 e1)
  | .ins C ns ds, _, _, h, e => by simp [D.py] at e
theorem DenL.dp : ∀ (ds : List D) (vs : List V) (ps : List PyData), DenL K H vs ds → D.pyL ds = some ps → DpAll K H vs ps
  | [], _, _, h, e => by cases h; simp [D.pyL] at e; subst e; exact .nil
  | d :: ds, _, _, h, e => by
    cases h with
    | cons h1 h2 =>
      cases ep : D.py d with
      | none => simp [D.pyL, ep] at e
      | some p =>
        cases eq : D.pyL ds with
        | none => simp [D.pyL, ep, eq] at e
        | some ps =>
          simp [D.pyL, ep, eq] at e
          subst e
          exact .cons (Den.dp d _ p h1 ep) (DenL.dp ds _ ps h2 eq)
end
end

/-! ### worlds -/
/-- H: the abstract heap; F: what is settled; G: F and the lists that stand as they are now -/
structure Wd where
  H : Hp
  G : Hp
  F : Hp
def Wd.at (W : Wd) (b : Bool) : Hp := if b then W.F else W.G
def isTup : HO → Bool
  | .tup _ => true
  | .frz _ (.tup _) => true
  | _ => false
structure WOk (W : Wd) : Prop where
  fg : Same W.F W.G
  gh : Same W.G W.H
  /-- tuples that stand are settled -/
  gt : ∀ a u, W.G a = some u → isTup u = true → W.F a = some u
structure Gr (W W' : Wd) : Prop where
  h : Same W.H W'.H
  g : Same W.G W'.G
  f : Same W.F W'.F
  go : ∀ a o, W.H a = some o → W'.G a = W.G a
  fo : ∀ a o, W.H a = some o → W'.F a = W.F a
theorem Gr.refl (W : Wd) : Gr W W := ⟨Same.refl _, Same.refl _, Same.refl _, fun _ _ _ => rfl, fun _ _ _ => rfl⟩
theorem Gr.trans {W1 W2 W3 : Wd} (a : Gr W1 W2) (b : Gr W2 W3) : Gr W1 W3 :=
  ⟨a.h.trans b.h, a.g.trans b.g, a.f.trans b.f, fun c o h => (b.go c o (a.h c o h)).trans (a.go c o h), fun c o h => (b.fo c o (a.h c o h)).trans (a.fo c o h)⟩
theorem Gr.at {W W' : Wd} (a : Gr W W') (b : Bool) : Same (W.at b) (W'.at b) := by
  cases b
  · exact a.g
  · exact a.f
theorem WOk.fh {W : Wd} (k : WOk W) : Same W.F W.H := k.fg.trans k.gh
theorem WOk.atG {W : Wd} (k : WOk W) (b : Bool) : Same (W.at b) W.G := by
  cases b
  · exact Same.refl _
  · exact k.fg
theorem WOk.atH {W : Wd} (k : WOk W) (b : Bool) : Same (W.at b) W.H := (k.atG b).trans k.gh
theorem WOk.nG {W : Wd} (k : WOk W) {a : Addr} (h : W.H a = none) : W.G a = none := k.gh.free h
theorem WOk.nF {W : Wd} (k : WOk W) {a : Addr} (h : W.H a = none) : W.F a = none := k.fg.free (k.nG h)
/-- a new object that is settled (b) or stands (not b) -/
def Wd.new (W : Wd) (b : Bool) (p : Addr) (o : HO) : Wd := ⟨upd W.H p o, upd W.G p o, if b || isTup o then upd W.F p o else W.F⟩
theorem same_upd {H : Hp} {p : Addr} {o : HO} (h : H p = none) : Same H (upd H p o) := fun a u e => by
  rw [upd_ne (ne_of_none e h)]; exact e
theorem same_upd2 {H H' : Hp} {p : Addr} {o : HO} (e : Same H H') : Same (upd H p o) (upd H' p o) := fun a u q => by
  by_cases h : a = p
  · subst h; rw [upd_same] at q ⊢; exact q
  · rw [upd_ne h] at q ⊢; exact e a u q
theorem new_F {W : Wd} {b : Bool} {p : Addr} {o : HO} : (W.new b p o).F = upd W.F p o ∨ ((W.new b p o).F = W.F ∧ b = false ∧ isTup o = false) := by
  show (if b || isTup o then upd W.F p o else W.F) = _ ∨ (if b || isTup o then upd W.F p o else W.F) = _ ∧ _
  cases b with
  | true => exact .inl rfl
  | false =>
    cases h : isTup o with
    | true => exact .inl rfl
    | false => exact .inr ⟨rfl, rfl, rfl⟩
theorem new_ok {W : Wd} (k : WOk W) {b : Bool} {p : Addr} {o : HO} (h : W.H p = none) : WOk (W.new b p o) := by
  refine ⟨?_, same_upd2 k.gh, fun a xs e ht => ?_⟩
  · rcases new_F (W := W) (b := b) (p := p) (o := o) with q | ⟨q, _⟩
    · rw [q]; exact same_upd2 k.fg
    · rw [q]; exact k.fg.trans (same_upd (k.nG h))
  · have e' : upd W.G p o a = some xs := e
    by_cases ha : a = p
    · subst ha
      rw [upd_same] at e'
      cases e'
      rcases new_F (W := W) (b := b) (p := a) (o := o) with q | ⟨q, _, q3⟩
      · rw [q, upd_same]
      · rw [q3] at ht; cases ht
    · rw [upd_ne ha] at e'
      have := k.gt a xs e' ht
      rcases new_F (W := W) (b := b) (p := p) (o := o) with q | ⟨q, _⟩
      · rw [q, upd_ne ha]; exact this
      · rw [q]; exact this
theorem new_gr {W : Wd} (k : WOk W) {b : Bool} {p : Addr} {o : HO} (h : W.H p = none) : Gr W (W.new b p o) := by
  refine ⟨same_upd h, same_upd (k.nG h), ?_, fun a u e => ?_, fun a u e => ?_⟩
  · rcases new_F (W := W) (b := b) (p := p) (o := o) with q | ⟨q, _⟩
    · rw [q]; exact same_upd (k.nF h)
    · rw [q]; exact Same.refl _
  · exact upd_ne (ne_of_none e h)
  · rcases new_F (W := W) (b := b) (p := p) (o := o) with q | ⟨q, _⟩
    · rw [q]; exact upd_ne (ne_of_none e h)
    · rw [q]
theorem new_at {W : Wd} {b : Bool} {p : Addr} {o : HO} : (W.new b p o).at b = upd (W.at b) p o := by
  cases b <;> rfl
theorem new_self {W : Wd} {b : Bool} {p : Addr} {o : HO} : ((W.new b p o).at b) p = some o := by
  rw [new_at, upd_same]
theorem new_denL {K : PySem.W.Frag} {W : Wd} (k : WOk W) {b : Bool} {p : Addr} {o : HO} (h : W.H p = none) {vs : List V} {ds : List D} (hd : DenL K (W.at b) vs ds) : DenL K ((W.new b p o).at b) vs ds :=
  hd.up ((new_gr k h).at b)

/-! ### cells -/
inductive Cell where
  /-- settled data -/
  | fz (d : D)
  /-- a list of one's own -/
  | own (ds : List D)
  /-- the instance that __init__ fills; where it stands, and its dict: told by W0's G -/
  | slf (C : Addr) (ns : List Str) (ds : List D)
  /-- the exception, of the class at C, that the suite holds -/
  | exc (C : Addr) (ns : List Str) (ds : List D)
abbrev Env := List (Option Cell)
/-- where the exception that a suite holds stands, and its dict: told by W0's G, which is used for nothing else -/
def Wd.xa (W0 : Wd) : Addr := match W0.G 0 with
  | some (.own a) => a
  | _ => 0
def Wd.xd (W0 : Wd) : Addr := match W0.G 1 with
  | some (.own a) => a
  | _ => 0
def Wd.sa (W0 : Wd) : Addr := match W0.G 2 with
  | some (.own a) => a
  | _ => 0
def Wd.sd (W0 : Wd) : Addr := match W0.G 3 with
  | some (.own a) => a
  | _ => 0
def CellOk (K : PySem.W.Frag) (W0 W : Wd) : Option V → Option Cell → Prop
  | _, none => True
  | x, some (.fz d) => ∃ v, x = some v ∧ Den K W.F v d
  | x, some (.own ds) => ∃ l vs, x = some (.ref l) ∧ W.H l = some (.lst vs) ∧ W.G l = some (.lst vs) ∧ W.F l = none ∧ W0.H l = none ∧ DenL K W.F vs ds
  | x, some (.slf C ns ds) => ∃ fs, x = some (.ref W0.sa) ∧ W.H W0.sa = some (.ins C W0.sd fs) ∧ W.G W0.sa = none ∧ W.F W0.sa = none ∧ W0.H W0.sa = none ∧ fs.map (·.1) = ns ∧ DenL K W.F (fs.map (·.2)) ds
  | x, some (.exc C ns ds) => ∃ fs, x = some (.ref W0.xa) ∧ W.H W0.xd = some (.xd fs) ∧ fs.map (·.1) = ns ∧ DenL K W.F (fs.map (·.2)) ds
/-- the cell holds the object at l -/
def cobj : Option Cell → Bool
  | some (.own _) => true | some (.slf _ _ _) => true | _ => false
def Holds (x : Option V) (c : Option Cell) (l : Addr) : Prop := x = some (.ref l) ∧ cobj c = true
structure SD (K : PySem.W.Frag) (W0 W : Wd) (σ : L2.St) (c : Env) : Prop where
  len : σ.length = c.length
  ok : ∀ (i : Nat) x y, σ[i]? = some x → c[i]? = some y → CellOk K W0 W x y
  one : ∀ (i j : Nat) x y z u l, σ[i]? = some x → c[i]? = some y → σ[j]? = some z → c[j]? = some u → Holds x y l → Holds z u l → i = j
theorem SD.at {K : PySem.W.Frag} {W0 W : Wd} {σ : L2.St} {c : Env} (s : SD K W0 W σ c) {i : Nat} {y : Option Cell} (h : c[i]? = some y) : ∃ x, σ[i]? = some x ∧ CellOk K W0 W x y := by
  have hi : i < σ.length := by rw [s.len]; exact (List.getElem?_eq_some_iff.mp h).1
  exact ⟨σ[i], List.getElem?_eq_getElem hi, s.ok i _ y (List.getElem?_eq_getElem hi) h⟩
theorem CellOk.gr {K : PySem.W.Frag} {W0 W W' : Wd} (g : Gr W W') : ∀ {x : Option V} {y : Option Cell}, CellOk K W0 W x y → CellOk K W0 W' x y
  | _, none, _ => trivial
  | _, some (.fz d), ⟨v, h1, h2⟩ => ⟨v, h1, Den.mono g.f _ _ h2⟩
  | _, some (.own ds), ⟨l, vs, h1, h2, h3, h4, h5, h6⟩ => ⟨l, vs, h1, g.h _ _ h2, (g.go _ _ h2).trans h3, (g.fo _ _ h2).trans h4, h5, DenL.mono g.f _ _ h6⟩
  | _, some (.slf C ns ds), ⟨fs, h1, h2, h3, h4, h5, h6, h7⟩ => ⟨fs, h1, g.h _ _ h2, (g.go _ _ h2).trans h3, (g.fo _ _ h2).trans h4, h5, h6, DenL.mono g.f _ _ h7⟩
  | _, some (.exc C ns ds), ⟨fs, h1, h2, h3, h4⟩ => ⟨fs, h1, g.h _ _ h2, h3, DenL.mono g.f _ _ h4⟩
theorem SD.gr {K : PySem.W.Frag} {W0 W W' : Wd} {σ : L2.St} {c : Env} (s : SD K W0 W σ c) (g : Gr W W') : SD K W0 W' σ c :=
  ⟨s.len, fun i x y h1 h2 => (s.ok i x y h1 h2).gr g, s.one⟩
/-- all since the entry -/
structure Up (W0 W : Wd) : Prop where
  h : Same W0.H W.H
  f : Same W0.F W.F
  fo : ∀ a o, W0.H a = some o → W.F a = W0.F a
theorem Up.gr {W0 W W' : Wd} (u : Up W0 W) (g : Gr W W') : Up W0 W' := ⟨u.h.trans g.h, u.f.trans g.f, fun a o h => (g.fo a o (u.h a o h)).trans (u.fo a o h)⟩

/-! ### readings by functions of cells -/
abbrev GE := Env → Option D
abbrev GB := Env → Option Bool
abbrev GA := Env → Option (List D)
/-- an expression: b: its value is settled, or stands -/
def VT (K : PySem.W.Frag) (W0 : Wd) (b : Bool) (te : TE) (g : GE) : Prop :=
  ∀ (W : Wd) (σ : L2.St) (c : Env) (d : D) (Q : VK), WOk W → Up W0 W → SD K W0 W σ c → g c = some d → (∀ W' v, WOk W' → Gr W W' → Den K (W'.at b) v d → Q v W'.H) → te σ W.H Q
/-- a test -/
def VB (K : PySem.W.Frag) (W0 : Wd) (tt : TT) (g : GB) : Prop :=
  ∀ (W : Wd) (σ : L2.St) (c : Env) (d : Bool) (Q : Bool → Hp → Prop), WOk W → Up W0 W → SD K W0 W σ c → g c = some d → (∀ W', WOk W' → Gr W W' → Q d W'.H) → tt σ W.H Q
/-- arguments -/
def VArg (K : PySem.W.Frag) (W0 : Wd) (b : Bool) (ta : TA) (g : GA) : Prop :=
  ∀ (W : Wd) (σ : L2.St) (c : Env) (ds : List D) (Q : List V → Hp → Prop), WOk W → Up W0 W → SD K W0 W σ c → g c = some ds → (∀ W' vs, WOk W' → Gr W W' → DenL K (W'.at b) vs ds → Q vs W'.H) → ta σ W.H Q
/-- a list that is new -/
def VN (K : PySem.W.Frag) (W0 : Wd) (te : TE) (g : GA) : Prop :=
  ∀ (W : Wd) (σ : L2.St) (c : Env) (ds : List D) (Q : VK), WOk W → Up W0 W → SD K W0 W σ c → g c = some ds →
    (∀ W' l vs, WOk W' → Gr W W' → W'.H l = none → DenL K W'.F vs ds → Q (.ref l) (upd W'.H l (.lst vs))) → te σ W.H Q

section
variable {K : PySem.W.Frag} {b : Bool} {te ta tb : TE} {g ga gb : GE}
theorem VT.weak (h : VT K W0 true te g) : VT K W0 b te g := by
  cases b
  · intro W σ c d Q k u s e q
    exact h W σ c d Q k u s e fun W' v k' g' hd => q W' v k' g' (Den.mono k'.fg _ _ hd)
  · exact h
/-- a scalar is settled -/
def gScal (g : GE) : GE := fun c => match g c with
  | some d => if d.scal then some d else none
  | none => none
theorem gScal_some {g : GE} {c : Env} {d : D} (h : gScal g c = some d) : g c = some d ∧ d.scal = true := by
  unfold gScal at h
  split at h
  · rename_i e he
    by_cases hs : e.scal = true
    · rw [if_pos hs] at h; cases h; exact ⟨he, hs⟩
    · rw [if_neg hs] at h; cases h
  · cases h
theorem vt_scal {b' : Bool} (h : VT K W0 b' te g) : VT K W0 b te (gScal g) := by
  intro W σ c d Q k u s e q
  obtain ⟨e1, e2⟩ := gScal_some e
  refine h W σ c d Q k u s e1 fun W' v k' g' hd => q W' v k' g' ?_
  rw [den_scal hd e2]
  exact scal_den e2
theorem VN.vt {g : GA} (h : VN K W0 te g) : VT K W0 b te (fun c => (g c).map D.lst) := by
  intro W σ c d Q k u s e q
  simp only [Option.map_eq_some_iff] at e
  obtain ⟨ds, e1, e2⟩ := e
  subst e2
  refine h W σ c ds Q k u s e1 fun W' l vs k' g' hl hd => ?_
  exact q (W'.new b l (.lst vs)) _ (new_ok k' hl) (g'.trans (new_gr k' hl)) (.lst new_self (new_denL k' hl (hd.up (by cases b; exact k'.fg; exact Same.refl _))))

/-! names and constants -/
def gVar (i : Nat) : GE := fun c => match c[i]? with
  | some (some (.fz d)) => some d
  | _ => none
def gLook (i : Nat) : GE := fun c => match c[i]? with
  | some (some (.fz d)) => some d
  | some (some (.own ds)) => some (.lst ds)
  | _ => none
def gC (d : D) : GE := fun _ => some d
theorem vt_var (i : Nat) : VT K W0 b (tVar i) (gVar i) := by
  intro W σ c d Q k u s e q
  unfold gVar at e
  split at e
  · rename_i d' hc
    cases e
    obtain ⟨x, hx, v, rfl, hd⟩ := s.at hc
    exact ⟨v, hx, q W v k (Gr.refl W) (hd.up (by cases b; exact k.fg; exact Same.refl _))⟩
  · cases e
theorem vt_look (i : Nat) : VT K W0 false (tVar i) (gLook i) := by
  intro W σ c d Q k u s e q
  unfold gLook at e
  split at e
  · rename_i d' hc
    cases e
    obtain ⟨x, hx, v, rfl, hd⟩ := s.at hc
    exact ⟨v, hx, q W v k (Gr.refl W) (hd.up k.fg)⟩
  · rename_i ds hc
    cases e
    obtain ⟨x, hx, l, vs, rfl, h1, h2, h3, h4, h5⟩ := s.at hc
    exact ⟨_, hx, q W _ k (Gr.refl W) (.lst h2 (h5.up k.fg))⟩
  · cases e
theorem vt_int {i : Int} : VT K W0 b (tC (.int i)) (gC (.int i)) := by
  intro W σ c d Q k u s e q
  cases e
  exact q W _ k (Gr.refl W) (.int i)
theorem vt_bl {i : Bool} : VT K W0 b (tC (.bl i)) (gC (.bl i)) := by
  intro W σ c d Q k u s e q
  cases e
  exact q W _ k (Gr.refl W) (.bl i)
theorem vt_str {x : Str} : VT K W0 b (tC (.str x)) (gC (.str x)) := by
  intro W σ c d Q k u s e q
  cases e
  exact q W _ k (Gr.refl W) (.str x)
theorem vt_non : VT K W0 b (tC .non) (gC .non) := by
  intro W σ c d Q k u s e q
  cases e
  exact q W _ k (Gr.refl W) .non

/-! operators on two values -/
def g2 (f : D → D → Option D) (ga gb : GE) : GE := fun c => match ga c with
  | some x => match gb c with
    | some y => f x y
    | none => none
  | none => none
theorem g2_some {f : D → D → Option D} {ga gb : GE} {c : Env} {d : D} (h : g2 f ga gb c = some d) : ∃ x y, ga c = some x ∧ gb c = some y ∧ f x y = some d := by
  unfold g2 at h
  split at h
  · rename_i x hx
    split at h
    · rename_i y hy
      exact ⟨x, y, hx, hy, h⟩
    · cases h
  · cases h
/-- the operation r does f, its value as settled as its operands -/
def RO (K : PySem.W.Frag) (r : R2) (f : D → D → Option D) : Prop :=
  ∀ (b : Bool) (W : Wd) (x y : V) (d e z : D) (Q : VK), WOk W → Den K (W.at b) x d → Den K (W.at b) y e → f d e = some z → (∀ W' v, WOk W' → Gr W W' → Den K (W'.at b) v z → Q v W'.H) → r x y W.H Q
/-- .. its value a scalar -/
def ROS (K : PySem.W.Frag) (r : R2) (f : D → D → Option D) : Prop :=
  ∀ (W : Wd) (x y : V) (d e z : D) (Q : VK), WOk W → Den K W.G x d → Den K W.G y e → f d e = some z → (∀ v, (∀ H, Den K H v z) → Q v W.H) → r x y W.H Q
theorem vt_op {r : R2} {f : D → D → Option D} (hr : RO K r f) (ha : VT K W0 b ta ga) (hb : VT K W0 b tb gb) : VT K W0 b (tOp r ta tb) (g2 f ga gb) := by
  intro W σ c d Q k u s e q
  obtain ⟨x, y, ex, ey, ef⟩ := g2_some e
  refine ha W σ c x _ k u s ex fun W1 v1 k1 g1 d1 => ?_
  refine hb W1 σ c y _ k1 (u.gr g1) (s.gr g1) ey fun W2 v2 k2 g2 d2 => ?_
  exact hr b W2 v1 v2 x y d Q k2 (d1.up (g2.at b)) d2 ef fun W3 v3 k3 g3 d3 => q W3 v3 k3 (g1.trans (g2.trans g3)) d3
theorem vt_opS {b1 b2 : Bool} {r : R2} {f : D → D → Option D} (hr : ROS K r f) (ha : VT K W0 b1 ta ga) (hb : VT K W0 b2 tb gb) : VT K W0 b (tOp r ta tb) (g2 f ga gb) := by
  intro W σ c d Q k u s e q
  obtain ⟨x, y, ex, ey, ef⟩ := g2_some e
  refine ha W σ c x _ k u s ex fun W1 v1 k1 g1 d1 => ?_
  refine hb W1 σ c y _ k1 (u.gr g1) (s.gr g1) ey fun W2 v2 k2 g2 d2 => ?_
  exact hr W2 v1 v2 x y d Q k2 (d1.up ((g2.at b1).trans (k2.atG b1))) (d2.up (k2.atG b2)) ef fun v hv => q W2 v k2 (g1.trans g2) (hv _)
end
end VL
end

section
/-! VB: operators, tests, subscripts, built-in calls by data. -/
namespace VL
open PySem PySem.Spec PyProof.Rows L2

/-! ### + -/
def dAdd : D → D → Option D
  | .int i, .int j => some (.int (i + j))
  | .str a, .str b => if a.length + b.length ≤ sizeLine then some (.str (a ++ b)) else none
  | .lst a, .lst b => if a.length + b.length ≤ sizeLine then some (.lst (a ++ b)) else none
  | .tup a, .tup b => if a.length + b.length ≤ sizeLine then some (.tup (a ++ b)) else none
  | _, _ => none
def rAddU (K : PySem.W.Frag) : R2 := fun x y H Q => rI0 (fun i j => .int (i + j)) x y H Q ∨ (∃ i j, x = .str i ∧ y = .str j ∧ i.length + j.length ≤ sizeLine ∧ Q (.str (i ++ j)) H) ∨ rCat x y H Q ∨ rCatA K x y H Q
theorem op_addU {X : Cx} : OpR X (binaryOp .Add) (rAddU X.K) := op_add.or (op_add_str.or (op_cat.or op_catA))
theorem ro_add {K : PySem.W.Frag} : RO K (rAddU K) dAdd := by
  intro b W x y d e z Q k hx hy hf q
  unfold dAdd at hf
  split at hf
  · cases hf; cases hx; cases hy
    exact .inl ⟨_, _, rfl, rfl, q W _ k (Gr.refl W) (.int _)⟩
  · split at hf
    · rename_i hz
      cases hf; cases hx; cases hy
      exact .inr (.inl ⟨_, _, rfl, rfl, hz, q W _ k (Gr.refl W) (.str _)⟩)
    · cases hf
  · split at hf
    · rename_i hz
      cases hf
      cases hx with
      | lst h1 h2 =>
        cases hy with
        | lst h3 h4 =>
          refine .inr (.inr (.inl ⟨_, _, _, _, rfl, rfl, k.atH b _ _ h1, k.atH b _ _ h3, by rw [h2.length, h4.length]; exact hz, fun p hp => ?_⟩))
          exact q (W.new b p _) _ (new_ok k hp) (new_gr k hp) (.lst new_self (new_denL k hp (h2.append h4)))
    · cases hf
  · split at hf
    · rename_i hz
      cases hf
      cases hx with
      | @tup a1 xs1 _ h1 h2 =>
        cases hy with
        | @tup a2 xs2 _ h3 h4 =>
          refine .inr (.inr (.inr ⟨_, _, _, _, rfl, rfl, sqT_same (k.atH b) h1, sqT_same (k.atH b) h3, by rw [h2.length, h4.length]; exact hz, fun e1 => ?_, fun _ e2 => ?_, fun _ _ p hp => ?_⟩))
          · refine q W _ k (Gr.refl W) (.tup h3 ?_)
            have z := h2.append h4
            rw [e1] at z
            exact z
          · refine q W _ k (Gr.refl W) (.tup h1 ?_)
            have z := h2.append h4
            rw [e2, List.append_nil] at z
            exact z
          · exact q (W.new b p _) _ (new_ok k hp) (new_gr k hp) (.tup (SqT.of new_self) (new_denL k hp (h2.append h4)))
    · cases hf
  · cases hf

/-! ### ints -/
def dI (C : Int → Int → Prop) [∀ i j, Decidable (C i j)] (f : Int → Int → Int) : D → D → Option D
  | .int i, .int j => if C i j then some (.int (f i j)) else none
  | _, _ => none
theorem ros_I {K : PySem.W.Frag} {C : Int → Int → Prop} [∀ i j, Decidable (C i j)] {f : Int → Int → Int} : ROS K (rI C fun i j => .int (f i j)) (dI C f) := by
  intro W x y d e z Q k hx hy hf q
  unfold dI at hf
  split at hf
  · split at hf
    · rename_i hc
      cases hf; cases hx; cases hy
      exact ⟨_, _, rfl, rfl, hc, q _ fun H => .int _⟩
    · cases hf
  · cases hf
def dSub : D → D → Option D
  | .int i, .int j => some (.int (i - j))
  | _, _ => none
theorem ros_sub {K : PySem.W.Frag} : ROS K (rI0 fun i j => .int (i - j)) dSub := by
  intro W x y d e z Q k hx hy hf q
  unfold dSub at hf
  split at hf
  · cases hf; cases hx; cases hy
    exact ⟨_, _, rfl, rfl, q _ fun H => .int _⟩
  · cases hf
instance : ∀ i j, Decidable (CMul i j) := fun i j => by unfold CMul; infer_instance
instance : ∀ i j, Decidable (CDivW i j) := fun i j => by unfold CDivW; infer_instance
instance : ∀ i j, Decidable (CPow i j) := fun i j => by unfold CPow; infer_instance
abbrev PosR (i j : Int) : Prop := 0 < j
abbrev dMulI : D → D → Option D := dI CMul fun i j => i * j
abbrev dFdiv : D → D → Option D := dI CDivW fun i j => i / j
abbrev dMod : D → D → Option D := dI PosR fun i j => i % j
abbrev dPow : D → D → Option D := dI CPow fun i j => i ^ j.toNat
/-- ints, a list times an int -/
def dMul : D → D → Option D
  | .int i, .int j => if CMul i j then some (.int (i * j)) else none
  | .lst a, .int j => if 0 ≤ j ∧ j < 2 ^ 63 ∧ a.length * j.toNat ≤ sizeLine then some (.lst (List.replicate j.toNat a).flatten) else none
  | _, _ => none
def rMulU : R2 := fun x y H Q => rI CMul (fun i j => .int (i * j)) x y H Q ∨ rRep x y H Q
theorem op_mulU {X : Cx} : OpR X (binaryOp .Mult) rMulU := op_mul.or op_rep
theorem ro_mul {K : PySem.W.Frag} : RO K rMulU dMul := by
  intro b W x y d e z Q k hx hy hf q
  unfold dMul at hf
  split at hf
  · split at hf
    · rename_i hc
      cases hf; cases hx; cases hy
      exact .inl ⟨_, _, rfl, rfl, hc, q W _ k (Gr.refl W) (.int _)⟩
    · cases hf
  · split at hf
    · rename_i hc
      cases hf; cases hy
      cases hx with
      | lst h1 h2 =>
        refine .inr ⟨_, _, _, rfl, rfl, k.atH b _ _ h1, by omega, hc.2.1, by rw [h2.length]; exact hc.2.2, fun p hp => ?_⟩
        exact q (W.new b p _) _ (new_ok k hp) (new_gr k hp) (.lst new_self (new_denL k hp (h2.rep _)))
    · cases hf
  · cases hf
def dNeg : D → Option D
  | .int i => some (.int (-i))
  | _ => none

/-! ### order -/
def dCmp (f : Int → Int → Bool) (g : Str → Str → Bool) : D → D → Option D
  | .int i, .int j => some (.bl (f i j))
  | .str a, .str b => some (.bl (g a b))
  | _, _ => none
def rCmpU (f : Int → Int → Bool) (g : Str → Str → Bool) : R2 := fun x y H Q => rI0 (fun i j => .bl (f i j)) x y H Q ∨ (∃ i j, x = .str i ∧ y = .str j ∧ Q (.bl (g i j)) H)
theorem ros_cmp {K : PySem.W.Frag} {f : Int → Int → Bool} {g : Str → Str → Bool} : ROS K (rCmpU f g) (dCmp f g) := by
  intro W x y d e z Q k hx hy hf q
  unfold dCmp at hf
  split at hf
  · cases hf; cases hx; cases hy
    exact .inl ⟨_, _, rfl, rfl, q _ fun H => .bl _⟩
  · cases hf; cases hx; cases hy
    exact .inr ⟨_, _, rfl, rfl, q _ fun H => .bl _⟩
  · cases hf
abbrev rLtU : R2 := rCmpU (fun i j => decide (i < j)) (fun i j => decide (i.cps.toList < j.cps.toList))
abbrev rLeU : R2 := rCmpU (fun i j => decide (i ≤ j)) (fun i j => !decide (j.cps.toList < i.cps.toList))
abbrev rGtU : R2 := rCmpU (fun i j => decide (j < i)) (fun i j => decide (j.cps.toList < i.cps.toList))
abbrev rGeU : R2 := rCmpU (fun i j => decide (j ≤ i)) (fun i j => !decide (i.cps.toList < j.cps.toList))
abbrev dLt : D → D → Option D := dCmp (fun i j => decide (i < j)) (fun i j => decide (i.cps.toList < j.cps.toList))
abbrev dLe : D → D → Option D := dCmp (fun i j => decide (i ≤ j)) (fun i j => !decide (j.cps.toList < i.cps.toList))
abbrev dGt : D → D → Option D := dCmp (fun i j => decide (j < i)) (fun i j => decide (j.cps.toList < i.cps.toList))
abbrev dGe : D → D → Option D := dCmp (fun i j => decide (j ≤ i)) (fun i j => !decide (i.cps.toList < j.cps.toList))
section
variable {X : Cx}
theorem op_ltU : OpR X (compareOp .Lt) rLtU := op_lt.or op_lt_str
theorem op_leU : OpR X (compareOp .LtE) rLeU := op_le.or op_le_str
theorem op_gtU : OpR X (compareOp .Gt) rGtU := op_gt.or op_gt_str
theorem op_geU : OpR X (compareOp .GtE) rGeU := op_ge.or op_ge_str
end

/-! ### ==, != -/
def dEqG (x y : D) : Option Bool := match x.py, y.py with
  | some p, some q => if SeqAt.shaped p = true ∧ SeqAt.shaped q = true then some (PyData.eqv p q) else none
  | _, _ => none
def dEqB : D → D → Option Bool
  | .int i, .int j => some (decide (i = j))
  | .str a, .str b => some (decide (a = b))
  | x, y => dEqG x y
def dEq (x y : D) : Option D := (dEqB x y).map .bl
def dNe (x y : D) : Option D := (dEqB x y).map fun b => .bl (!b)
theorem shaped_int (i : Int) : SeqAt.shaped (.int i) = true := by simp [SeqAt.shaped, PyData.canLay0, PyData.depth]
theorem dEqB_run {K : PySem.W.Frag} {H H' : Hp} (e : Same H H') {x y : V} {d f : D} {b : Bool} (hx : Den K H x d) (hy : Den K H y f) (h : dEqB d f = some b) :
    (∃ p q, Dp K H' x p ∧ Dp K H' y q ∧ SeqAt.shaped p = true ∧ SeqAt.shaped q = true ∧ PyData.eqv p q = b) ∨ (scal x y = true ∧ decide (x = y) = b) := by
  unfold dEqB at h
  split at h
  · cases h; cases hx; cases hy
    exact .inl ⟨_, _, .int _, .int _, shaped_int _, shaped_int _, by simp only [PyData.eqv]; exact Bool.beq_eq_decide_eq _ _⟩
  · cases h; cases hx; cases hy
    exact .inr ⟨rfl, by simp⟩
  · unfold dEqG at h
    split at h
    · rename_i p q hp hq
      split at h
      · rename_i hs
        cases h
        exact .inl ⟨p, q, (Den.dp _ _ _ (hx.up e) hp), (Den.dp _ _ _ (hy.up e) hq), hs.1, hs.2, rfl⟩
      · cases h
    · cases h
def rEqU (K : PySem.W.Frag) : R2 := fun x y H Q => rEqD K x y H Q ∨ rEq x y H Q
def rNeU (K : PySem.W.Frag) : R2 := fun x y H Q => rNeD K x y H Q ∨ rNe x y H Q
theorem op_eqU {X : Cx} (hu : X.A.units + 64 < cLine) : OpR X (compareOp .Eq) (rEqU X.K) := (op_eqD hu).or op_eq
theorem op_neU {X : Cx} (hu : X.A.units + 64 < cLine) : OpR X (compareOp .NotEq) (rNeU X.K) := (op_neD hu).or op_ne
theorem ros_eq {K : PySem.W.Frag} : ROS K (rEqU K) dEq := by
  intro W x y d e z Q k hx hy hf q
  simp only [dEq, Option.map_eq_some_iff] at hf
  obtain ⟨b, h1, h2⟩ := hf
  subst h2
  rcases dEqB_run k.gh hx hy h1 with ⟨p, r, a1, a2, a3, a4, a5⟩ | ⟨a1, a2⟩
  · exact .inl ⟨p, r, a1, a2, a3, a4, by rw [a5]; exact q _ fun H => .bl _⟩
  · exact .inr ⟨a1, by rw [a2]; exact q _ fun H => .bl _⟩
theorem ros_ne {K : PySem.W.Frag} : ROS K (rNeU K) dNe := by
  intro W x y d e z Q k hx hy hf q
  simp only [dNe, Option.map_eq_some_iff] at hf
  obtain ⟨b, h1, h2⟩ := hf
  subst h2
  rcases dEqB_run k.gh hx hy h1 with ⟨p, r, a1, a2, a3, a4, a5⟩ | ⟨a1, a2⟩
  · exact .inl ⟨p, r, a1, a2, a3, a4, by rw [a5]; exact q _ fun H => .bl _⟩
  · exact .inr ⟨a1, by rw [a2]; exact q _ fun H => .bl _⟩

/-! ### in, is -/
def D.items : D → Option (List D)
  | .lst ds => some ds | .tup ds => some ds | .scr ds => some ds | _ => none
theorem den_items {K : PySem.W.Frag} {H : Hp} {v : V} {d : D} {ds : List D} (h : Den K H v d) (e : d.items = some ds) : ∃ a xs, v = .ref a ∧ (SqL K H a xs ∨ SqT K H a xs) ∧ DenL K H xs ds := by
  cases h <;> simp [D.items] at e <;> subst e
  · exact ⟨_, _, rfl, .inr (by assumption), by assumption⟩
  · exact ⟨_, _, rfl, .inl (SqL.of (by assumption)), by assumption⟩
  · exact ⟨_, _, rfl, .inl (by assumption), by assumption⟩
theorem denL_scal {K : PySem.W.Frag} {H : Hp} : ∀ {ds : List D} {vs : List V}, DenL K H vs ds → ds.all D.scal = true → vs = ds.map D.toV
  | [], _, h, _ => by cases h; rfl
  | d :: ds, _, h, e => by
    cases h with
    | cons h1 h2 =>
      rw [List.all_cons, Bool.and_eq_true] at e
      rw [den_scal h1 e.1, denL_scal h2 e.2]
      rfl
theorem flat_toV : ∀ d : D, flatV d.toV = true := by intro d; cases d <;> rfl
theorem flat_all (ds : List D) : (ds.map D.toV).all flatV = true := by
  rw [List.all_map, List.all_eq_true]
  intro d _
  exact flat_toV d
def dInB : D → D → Option Bool
  | .str a, .str b => match a.cps.toList with
    | [c] => some (decide (c ∈ b.cps.toList))
    | _ => none
  | x, y => match y.items with
    | some ds => if x.scal = true ∧ ds.all D.scal = true then some ((ds.map D.toV).any fun v => eqV v x.toV) else none
    | none => none
def dIn (x y : D) : Option D := (dInB x y).map .bl
def dNotIn (x y : D) : Option D := (dInB x y).map fun b => .bl (!b)
def rInU (K : PySem.W.Frag) : R2 := fun x y H Q => rIn K false x y H Q ∨ (∃ (c : Nat) (z : Str), x = .str ⟨#[c]⟩ ∧ y = .str z ∧ Q (.bl (decide (c ∈ z.cps.toList))) H)
def rNotInU (K : PySem.W.Frag) : R2 := fun x y H Q => rIn K true x y H Q ∨ (∃ (c : Nat) (z : Str), x = .str ⟨#[c]⟩ ∧ y = .str z ∧ Q (.bl (!decide (c ∈ z.cps.toList))) H)
theorem op_inU {X : Cx} : OpR X (compareOp .In) (rInU X.K) := op_in_seq.or op_in_sign
theorem op_notInU {X : Cx} : OpR X (compareOp .NotIn) (rNotInU X.K) := op_notIn_seq.or op_notIn_sign
theorem str_one {a : Str} {c : Nat} (h : a.cps.toList = [c]) : a = ⟨#[c]⟩ := by
  cases a with
  | mk cps =>
    have e : cps = #[c] := by
      apply Array.toList_inj.mp
      exact h
    rw [e]
theorem dInB_run {K : PySem.W.Frag} {W : Wd} (k : WOk W) {x y : V} {d f : D} {b : Bool} (hx : Den K W.G x d) (hy : Den K W.G y f) (h : dInB d f = some b) :
    (∃ p xs, y = .ref p ∧ (SqL K W.H p xs ∨ SqT K W.H p xs) ∧ flatV x = true ∧ xs.all flatV = true ∧ inV x xs = b) ∨ (∃ (c : Nat) (z : Str), x = .str ⟨#[c]⟩ ∧ y = .str z ∧ decide (c ∈ z.cps.toList) = b) := by
  have gen : (match f.items with
    | some ds => if d.scal = true ∧ ds.all D.scal = true then some ((ds.map D.toV).any fun v => eqV v d.toV) else none
    | none => none) = some b → (∃ p xs, y = .ref p ∧ (SqL K W.H p xs ∨ SqT K W.H p xs) ∧ flatV x = true ∧ xs.all flatV = true ∧ inV x xs = b) := by
    intro h
    split at h
    · rename_i ds hds
      split at h
      · rename_i hs
        cases h
        obtain ⟨a, xs, rfl, hs1, hd⟩ := den_items hy hds
        refine ⟨a, xs, rfl, ?_, ?_, ?_, ?_⟩
        · rcases hs1 with z | z
          · exact .inl (k.gh.seq z)
          · exact .inr (sqT_same k.gh z)
        · rw [den_scal hx hs.1]; exact flat_toV d
        · rw [denL_scal hd hs.2]; exact flat_all ds
        · rw [den_scal hx hs.1, denL_scal hd hs.2]; rfl
      · cases h
    · cases h
  unfold dInB at h
  split at h
  · split at h
    · rename_i c hc
      cases h; cases hx; cases hy
      rw [str_one hc]
      exact .inr ⟨_, _, rfl, rfl, rfl⟩
    · cases h
  · exact .inl (gen h)
theorem ros_in {K : PySem.W.Frag} : ROS K (rInU K) dIn := by
  intro W x y d e z Q k hx hy hf q
  simp only [dIn, Option.map_eq_some_iff] at hf
  obtain ⟨b, h1, h2⟩ := hf
  subst h2
  rcases dInB_run k hx hy h1 with ⟨p, xs, a1, a2, a3, a4, a5⟩ | ⟨c, w, a1, a2, a3⟩
  · exact .inl ⟨p, xs, a1, a2, a3, a4, by rw [a5]; exact q _ fun H => .bl _⟩
  · exact .inr ⟨c, w, a1, a2, by rw [a3]; exact q _ fun H => .bl _⟩
theorem ros_notIn {K : PySem.W.Frag} : ROS K (rNotInU K) dNotIn := by
  intro W x y d e z Q k hx hy hf q
  simp only [dNotIn, Option.map_eq_some_iff] at hf
  obtain ⟨b, h1, h2⟩ := hf
  subst h2
  rcases dInB_run k hx hy h1 with ⟨p, xs, a1, a2, a3, a4, a5⟩ | ⟨c, w, a1, a2, a3⟩
  · exact .inl ⟨p, xs, a1, a2, a3, a4, by rw [a5]; exact q _ fun H => .bl _⟩
  · exact .inr ⟨c, w, a1, a2, by rw [a3]; exact q _ fun H => .bl _⟩
def D.isNon : D → Bool
  | .non => true | _ => false
theorem den_non {K : PySem.W.Frag} {H : Hp} {v : V} {d : D} (h : Den K H v d) : decide (v = .non) = d.isNon := by
  cases h <;> simp [D.isNon]
def dIs : D → D → Option D
  | x, .non => some (.bl x.isNon)
  | _, _ => none
def dIsNot : D → D → Option D
  | x, .non => some (.bl (!x.isNon))
  | _, _ => none
def rIsNU : R2 := fun x y H Q => y = .non ∧ Q (.bl (decide (x = .non))) H
def rIsNotNU : R2 := fun x y H Q => y = .non ∧ Q (.bl (!decide (x = .non))) H
theorem op_isU {X : Cx} : OpR X (compareOp .Is) rIsNU := op_isN
theorem op_isNotU {X : Cx} : OpR X (compareOp .IsNot) rIsNotNU := op_notN
theorem ros_is {K : PySem.W.Frag} : ROS K rIsNU dIs := by
  intro W x y d e z Q k hx hy hf q
  unfold dIs at hf
  split at hf
  · cases hf; cases hy
    exact ⟨rfl, by rw [den_non hx]; exact q _ fun H => .bl _⟩
  · cases hf
theorem ros_isNot {K : PySem.W.Frag} : ROS K rIsNotNU dIsNot := by
  intro W x y d e z Q k hx hy hf q
  unfold dIsNot at hf
  split at hf
  · cases hf; cases hy
    exact ⟨rfl, by rw [den_non hx]; exact q _ fun H => .bl _⟩
  · cases hf

/-! ### tests -/
def gB (g : GE) : GB := fun c => match g c with
  | some (.bl b) => some b
  | _ => none
theorem gB_some {g : GE} {c : Env} {b : Bool} (h : gB g c = some b) : g c = some (.bl b) := by
  unfold gB at h
  split at h
  · cases h; assumption
  · cases h
section
variable {K : PySem.W.Frag} {b b1 b2 : Bool} {te ta tb tc : TE} {g ga gb gc : GE} {tt tu : TT} {p q : GB}
theorem vb_test (h : VT K W0 b te g) : VB K W0 (tTest te) (gB g) := by
  intro W σ c d Q k u s e q
  exact h W σ c _ _ k u s (gB_some e) fun W' v k' g' hd => by cases hd; exact ⟨_, rfl, q W' k' g'⟩
theorem vb_tB (h : VT K W0 b te g) : VB K W0 (tB te) (gB g) := by
  intro W σ c d Q k u s e q
  exact h W σ c _ _ k u s (gB_some e) fun W' v k' g' hd => by cases hd; exact ⟨_, rfl, q W' k' g'⟩
def D.tru : D → Option Bool
  | .non => some false | .bl b => some b | .int i => some (decide (i ≠ 0))
  | .str x => if x.length ≤ sizeLine then some (decide (x.length ≠ 0)) else none
  | .tup ds => some (!ds.isEmpty) | .lst ds => some (!ds.isEmpty) | .scr ds => some (!ds.isEmpty)
  | .ins _ _ _ => none
def gTru (g : GE) : GB := fun c => match g c with
  | some d => d.tru
  | none => none
theorem denL_empty {K : PySem.W.Frag} {H : Hp} {vs : List V} {ds : List D} (h : DenL K H vs ds) : vs.isEmpty = ds.isEmpty := by
  cases h <;> rfl
theorem tru_run {K : PySem.W.Frag} {H : Hp} {v : V} {d : D} {r : Bool} (h : Den K H v d) (e : d.tru = some r) : TruV K v H r := by
  cases h with
  | non => cases e; rfl
  | bl b => cases e; rfl
  | int i => cases e; show _ = (i != 0); simp [bne, Bool.beq_eq_decide_eq]
  | str x =>
    simp only [D.tru] at e
    split at e
    · rename_i hz
      cases e
      refine ⟨hz, ?_⟩
      by_cases h0 : x.length = 0 <;> simp [h0, bne]
    · cases e
  | tup h1 h2 => cases e; exact .inr (.inl ⟨_, h1, by rw [denL_empty h2]⟩)
  | lst h1 h2 => cases e; exact .inl ⟨_, SqL.of h1, by rw [denL_empty h2]⟩
  | scr h1 h2 => cases e; exact .inl ⟨_, h1, by rw [denL_empty h2]⟩
  | ins h1 h2 h3 => cases e
theorem vb_tru (h : VT K W0 b te g) : VB K W0 (fun σ H Q => te σ H fun x H' => ∃ k, TruV K x H' k ∧ Q k H') (gTru g) := by
  intro W σ c d Q k u s e q
  unfold gTru at e
  split at e
  · rename_i x hx
    exact h W σ c _ _ k u s hx fun W' v k' g' hd => ⟨d, tru_run (hd.up (k'.atH b)) e, q W' k' g'⟩
  · cases e
def gNot (p : GB) : GB := fun c => (p c).map fun b => !b
def gAnd (p q : GB) : GB := fun c => match p c with
  | some true => q c
  | some false => some false
  | none => none
def gOr (p q : GB) : GB := fun c => match p c with
  | some true => some true
  | some false => q c
  | none => none
theorem vb_not (h : VB K W0 tt p) : VB K W0 (tNot tt) (gNot p) := by
  intro W σ c d Q k u s e q
  simp only [gNot, Option.map_eq_some_iff] at e
  obtain ⟨r, e1, e2⟩ := e
  subst e2
  exact h W σ c r _ k u s e1 fun W' k' g' => q W' k' g'
theorem vb_and (h : VB K W0 tt p) (h' : VB K W0 tu q) : VB K W0 (tAnd tt tu) (gAnd p q) := by
  intro W σ c d Q k u s e qq
  unfold gAnd at e
  split at e
  · rename_i e1
    refine h W σ c _ _ k u s e1 fun W' k' g' => ?_
    rw [if_pos rfl]
    exact h' W' σ c _ _ k' (u.gr g') (s.gr g') e fun W2 k2 g2 => qq W2 k2 (g'.trans g2)
  · rename_i e1
    cases e
    refine h W σ c _ _ k u s e1 fun W' k' g' => ?_
    rw [if_neg Bool.false_ne_true]
    exact qq W' k' g'
  · cases e
theorem vb_or (h : VB K W0 tt p) (h' : VB K W0 tu q) : VB K W0 (tOr tt tu) (gOr p q) := by
  intro W σ c d Q k u s e qq
  unfold gOr at e
  split at e
  · rename_i e1
    cases e
    refine h W σ c _ _ k u s e1 fun W' k' g' => ?_
    rw [if_pos rfl]
    exact qq W' k' g'
  · rename_i e1
    refine h W σ c _ _ k u s e1 fun W' k' g' => ?_
    rw [if_neg Bool.false_ne_true]
    exact h' W' σ c _ _ k' (u.gr g') (s.gr g') e fun W2 k2 g2 => qq W2 k2 (g'.trans g2)
  · cases e
/-- .. as values -/
def gBl (p : GB) : GE := fun c => (p c).map .bl
theorem vt_andV (h : VT K W0 b1 ta ga) (h' : VT K W0 b2 tb gb) : VT K W0 b (tAndV ta tb) (gBl (gAnd (gB ga) (gB gb))) := by
  intro W σ c d Q k u s e qq
  simp only [gBl, Option.map_eq_some_iff] at e
  obtain ⟨r, e, e2⟩ := e
  subst e2
  unfold gAnd at e
  split at e
  · rename_i e1
    refine h W σ c _ _ k u s (gB_some e1) fun W' v k' g' hd => ?_
    cases hd
    refine ⟨_, rfl, ?_⟩
    rw [if_pos rfl]
    exact h' W' σ c _ _ k' (u.gr g') (s.gr g') (gB_some e) fun W2 v k2 g2 hd => by cases hd; exact qq W2 _ k2 (g'.trans g2) (.bl _)
  · rename_i e1
    cases e
    refine h W σ c _ _ k u s (gB_some e1) fun W' v k' g' hd => ?_
    cases hd
    refine ⟨_, rfl, ?_⟩
    rw [if_neg Bool.false_ne_true]
    exact qq W' _ k' g' (.bl _)
  · cases e
theorem vt_orV (h : VT K W0 b1 ta ga) (h' : VT K W0 b2 tb gb) : VT K W0 b (tOrV ta tb) (gBl (gOr (gB ga) (gB gb))) := by
  intro W σ c d Q k u s e qq
  simp only [gBl, Option.map_eq_some_iff] at e
  obtain ⟨r, e, e2⟩ := e
  subst e2
  unfold gOr at e
  split at e
  · rename_i e1
    cases e
    refine h W σ c _ _ k u s (gB_some e1) fun W' v k' g' hd => ?_
    cases hd
    refine ⟨_, rfl, ?_⟩
    rw [if_pos rfl]
    exact qq W' _ k' g' (.bl _)
  · rename_i e1
    refine h W σ c _ _ k u s (gB_some e1) fun W' v k' g' hd => ?_
    cases hd
    refine ⟨_, rfl, ?_⟩
    rw [if_neg Bool.false_ne_true]
    exact h' W' σ c _ _ k' (u.gr g') (s.gr g') (gB_some e) fun W2 v k2 g2 hd => by cases hd; exact qq W2 _ k2 (g'.trans g2) (.bl _)
  · cases e
theorem vt_notV (h : VT K W0 b1 ta ga) : VT K W0 b (tNotV ta) (gBl (gNot (gB ga))) := by
  intro W σ c d Q k u s e qq
  simp only [gBl, gNot, Option.map_eq_some_iff] at e
  obtain ⟨r, ⟨r', e, e2⟩, e3⟩ := e
  subst e2 e3
  exact h W σ c _ _ k u s (gB_some e) fun W' v k' g' hd => by cases hd; exact ⟨_, rfl, qq W' _ k' g' (.bl _)⟩
/-- a chain x < y < z -/
def gChain (f f' : D → D → Option D) (ga gb gc : GE) : GE := fun c => match ga c with
  | some x => match gb c with
    | some y => match f x y with
      | some (.bl true) => match gc c with
        | some z => f' y z
        | none => none
      | some (.bl false) => some (.bl false)
      | _ => none
    | none => none
  | none => none
theorem vt_chain {b3 : Bool} {r r' : R2} {f f' : D → D → Option D} (hr : ROS K r f) (hr' : ROS K r' f') (ha : VT K W0 b1 ta ga) (hb : VT K W0 b2 tb gb) (hc : VT K W0 b3 tc gc) : VT K W0 b (tChain r r' ta tb tc) (gChain f f' ga gb gc) := by
  intro W σ c d Q k u s e q
  unfold gChain at e
  split at e
  · rename_i x hx
    split at e
    · rename_i y hy
      refine ha W σ c x _ k u s hx fun W1 v1 k1 g1 d1 => ?_
      refine hb W1 σ c y _ k1 (u.gr g1) (s.gr g1) hy fun W2 v2 k2 g2 d2 => ?_
      have c1 := d1.up ((g2.at b1).trans (k2.atG b1))
      have c2 := d2.up (k2.atG b2)
      split at e
      · rename_i hf
        refine hr W2 v1 v2 x y _ _ k2 c1 c2 hf fun v hv => ?_
        cases (hv W2.H)
        refine ⟨true, rfl, ?_⟩
        rw [if_pos rfl]
        split at e
        · rename_i z hz
          refine hc W2 σ c z _ k2 ((u.gr g1).gr g2) ((s.gr g1).gr g2) hz fun W3 v3 k3 g3 d3 => ?_
          exact hr' W3 v2 v3 y z d Q k3 (c2.up g3.g) (d3.up (k3.atG _)) e fun v hv => q W3 v k3 (g1.trans (g2.trans g3)) (hv _)
        · cases e
      · rename_i hf
        cases e
        refine hr W2 v1 v2 x y _ _ k2 c1 c2 hf fun v hv => ?_
        cases (hv W2.H)
        refine ⟨false, rfl, ?_⟩
        rw [if_neg Bool.false_ne_true]
        exact q W2 _ k2 (g1.trans g2) (.bl _)
      · cases e
    · cases e
  · cases e
/-- x if t else y -/
def gIfE (p : GB) (ga gb : GE) : GE := fun c => match p c with
  | some true => ga c
  | some false => gb c
  | none => none
theorem vt_ifE (h : VB K W0 tt p) (ha : VT K W0 b ta ga) (hb : VT K W0 b tb gb) : VT K W0 b (tIf tt ta tb) (gIfE p ga gb) := by
  intro W σ c d Q k u s e q
  unfold gIfE at e
  split at e
  · rename_i e1
    refine h W σ c _ _ k u s e1 fun W' k' g' => ?_
    rw [if_pos rfl]
    exact ha W' σ c _ _ k' (u.gr g') (s.gr g') e fun W2 v k2 g2 hd => q W2 v k2 (g'.trans g2) hd
  · rename_i e1
    refine h W σ c _ _ k u s e1 fun W' k' g' => ?_
    rw [if_neg Bool.false_ne_true]
    exact hb W' σ c _ _ k' (u.gr g') (s.gr g') e fun W2 v k2 g2 hd => q W2 v k2 (g'.trans g2) hd
  · cases e
def gNeg (ga : GE) : GE := fun c => (ga c).bind dNeg
theorem vt_neg (h : VT K W0 b1 ta ga) : VT K W0 b (tUn (rU fun i => .int (-i)) ta) (gNeg ga) := by
  intro W σ c d Q k u s e q
  unfold gNeg at e
  simp only [Option.bind_eq_some_iff] at e
  obtain ⟨x, e1, e2⟩ := e
  refine h W σ c _ _ k u s e1 fun W' v k' g' hd => ?_
  cases hd <;> simp [dNeg] at e2
  subst e2
  exact ⟨_, rfl, q W' _ k' g' (.int _)⟩

/-! ### arguments, displays -/
def gNil : GA := fun _ => some []
def gCons (g : GE) (gs : GA) : GA := fun c => match g c with
  | some d => match gs c with
    | some ds => some (d :: ds)
    | none => none
  | none => none
theorem gCons_some {g : GE} {gs : GA} {c : Env} {ds : List D} (h : gCons g gs c = some ds) : ∃ d r, g c = some d ∧ gs c = some r ∧ ds = d :: r := by
  unfold gCons at h
  split at h
  · rename_i x hx
    split at h
    · rename_i y hy
      cases h
      exact ⟨x, y, hx, hy, rfl⟩
    · cases h
  · cases h
theorem va_nil : VArg K W0 b tNil gNil := by
  intro W σ c ds Q k u s e q
  cases e
  exact q W [] k (Gr.refl W) .nil
theorem va_cons {ts : TA} {gs : GA} (h : VT K W0 b te g) (hs : VArg K W0 b ts gs) : VArg K W0 b (tCons te ts) (gCons g gs) := by
  intro W σ c ds Q k u s e q
  obtain ⟨d, r, e1, e2, rfl⟩ := gCons_some e
  refine h W σ c d _ k u s e1 fun W1 v k1 g1 d1 => ?_
  refine hs W1 σ c r _ k1 (u.gr g1) (s.gr g1) e2 fun W2 vs k2 g2 d2 => ?_
  exact q W2 (v :: vs) k2 (g1.trans g2) (.cons (d1.up (g2.at b)) d2)
def gTup (gs : GA) : GE := fun c => match gs c with
  | some ds => if ds.length ≤ sizeLine then some (.tup ds) else none
  | none => none
theorem vt_tup {ts : TA} {gs : GA} (hs : VArg K W0 b ts gs) : VT K W0 b (tTup ts) (gTup gs) := by
  intro W σ c d Q k u s e q
  unfold gTup at e
  split at e
  · rename_i ds hds
    split at e
    · rename_i hz
      cases e
      refine hs W σ c ds _ k u s hds fun W1 vs k1 g1 d1 => ⟨by rw [d1.length]; exact hz, fun p hp => ?_⟩
      exact q (W1.new b p _) _ (new_ok k1 hp) (g1.trans (new_gr k1 hp)) (.tup (SqT.of new_self) (new_denL k1 hp d1))
    · cases e
  · cases e
def gLen (gs : GA) : GA := fun c => match gs c with
  | some ds => if ds.length ≤ sizeLine then some ds else none
  | none => none
theorem vn_lst {ts : TA} {gs : GA} (hs : VArg K W0 true ts gs) : VN K W0 (tLst ts) (gLen gs) := by
  intro W σ c d Q k u s e q
  unfold gLen at e
  split at e
  · rename_i ds hds
    split at e
    · rename_i hz
      cases e
      refine hs W σ c _ _ k u s hds fun W1 vs k1 g1 d1 => ⟨by rw [d1.length]; exact hz, fun p hp => ?_⟩
      exact q W1 p vs k1 g1 hp d1
    · cases e
  · cases e

/-! ### subscripts -/
def dIx : D → D → Option D
  | .str x, .int i => if x.length ≤ sizeLine then (atI x.cps.toList i).map fun c => .str ⟨#[c]⟩ else none
  | x, .int i => match x.items with
    | some ds => atI ds i
    | none => none
  | _, _ => none
theorem denL_atI {H : Hp} {ds : List D} {vs : List V} {i : Int} {d : D} (h : DenL K H vs ds) (e : atI ds i = some d) : ∃ v, atI vs i = some v ∧ Den K H v d := by
  unfold atI at e ⊢
  rw [h.length]
  simp only [Option.bind_eq_some_iff] at e ⊢
  obtain ⟨j, e1, e2⟩ := e
  obtain ⟨v, e3, e4⟩ := h.get e2
  exact ⟨v, ⟨j, e1, e3⟩, e4⟩
theorem dIx_run {H H' : Hp} (e : Same H H') {x y : V} {d f z : D} (hx : Den K H x d) (hy : Den K H y f) (h : dIx d f = some z) {Q : VK} (q : ∀ v, Den K H v z → Q v H') : rIx K x y H' Q := by
  unfold dIx at h
  split at h
  · split at h
    · rename_i hz
      cases hx; cases hy
      simp only [Option.map_eq_some_iff] at h
      obtain ⟨c, e1, e2⟩ := h
      subst e2
      exact .inr (.inr ⟨_, _, c, rfl, rfl, hz, e1, q _ (.str _)⟩)
    · cases h
  · split at h
    · rename_i ds hds
      cases hy
      obtain ⟨a, xs, rfl, hs, hd⟩ := den_items hx hds
      obtain ⟨v, e3, e4⟩ := denL_atI hd h
      rcases hs with hs | hs
      · exact .inl ⟨a, xs, _, v, rfl, rfl, e.seq hs, e3, q v e4⟩
      · exact .inr (.inl ⟨a, xs, _, v, rfl, rfl, sqT_same e hs, e3, q v e4⟩)
    · cases h
  · cases h
theorem ro_ix : RO K (rIx K) dIx := fun b W x y d e z Q k hx hy hf q => dIx_run (k.atH b) hx hy hf fun v hv => q W v k (Gr.refl W) hv
/-- x[i], x a name: the items are settled -/
theorem vt_ixv {i : Nat} {b2 : Bool} (hb : VT K W0 b2 tb gb) : VT K W0 b (tOp (rIx K) (tVar i) tb) (g2 dIx (gLook i) gb) := by
  intro W σ c d Q k u s e q
  obtain ⟨x, y, ex, ey, ef⟩ := g2_some e
  unfold gLook at ex
  split at ex
  · rename_i d' hc
    cases ex
    obtain ⟨z, hx, v, rfl, hd⟩ := s.at hc
    refine ⟨v, hx, hb W σ c y _ k u s ey fun W2 v2 k2 g2 d2 => ?_⟩
    cases y with
    | int j => cases d2; exact dIx_run k2.fh (hd.up g2.f) (.int j) ef fun v hv => q W2 v k2 g2 (hv.up (by cases b; exact k2.fg; exact Same.refl _))
    | _ => simp [dIx] at ef
  · rename_i ds hc
    cases ex
    obtain ⟨z, hx, l, vs, rfl, h1, h2, h3, h4, h5⟩ := s.at hc
    refine ⟨_, hx, hb W σ c y _ k u s ey fun W2 v2 k2 g2 d2 => ?_⟩
    cases y with
    | int j =>
      cases d2
      have e3 : atI ds j = some d := ef
      obtain ⟨v, e5, e6⟩ := denL_atI (h5.up g2.f) e3
      exact .inl ⟨l, vs, j, v, rfl, rfl, SqL.of (g2.h _ _ h1), e5, q W2 v k2 g2 (e6.up (by cases b; exact k2.fg; exact Same.refl _))⟩
    | _ => simp [dIx] at ef
  · cases ex

/-! slices -/
abbrev GO := Env → Option (Option Int)
def VO (K : PySem.W.Frag) (W0 : Wd) (to : TO) (g : GO) : Prop :=
  ∀ (W : Wd) (σ : L2.St) (c : Env) (d : Option Int) (Q : Option Int → Hp → Prop), WOk W → Up W0 W → SD K W0 W σ c → g c = some d → (∀ W', WOk W' → Gr W W' → Q d W'.H) → to σ W.H Q
def gPart (g : GE) : GO := fun c => match g c with
  | some (.int i) => some (some i)
  | _ => none
theorem vo_none : VO K W0 tNoPart (fun _ => some none) := by
  intro W σ c d Q k u s e q
  cases e
  exact q W k (Gr.refl W)
theorem vo_some (h : VT K W0 b te g) : VO K W0 (tPart te) (gPart g) := by
  intro W σ c d Q k u s e q
  unfold gPart at e
  split at e
  · rename_i i hi
    cases e
    exact h W σ c _ _ k u s hi fun W' v k' g' hd => by cases hd; exact ⟨_, rfl, q W' k' g'⟩
  · cases e
def cutD (ds : List D) (lo hi : Option Int) : List D := (ds.drop (HT.sIx ds.length 0 lo)).take (HT.sIx ds.length ds.length hi - HT.sIx ds.length 0 lo)
theorem denL_cut {H : Hp} {ds : List D} {vs : List V} (h : DenL K H vs ds) (lo hi : Option Int) : DenL K H (cutV vs lo hi) (cutD ds lo hi) := by
  unfold cutV cutD
  rw [h.length]
  exact (h.drop _).take _
def dCut (x : D) (lo hi : Option Int) : Option D := match x with
  | .str z => if z.length ≤ sizeLine then some (.str (cutS z lo hi)) else none
  | .tup ds => some (.tup (cutD ds lo hi))
  | .lst ds => some (.lst (cutD ds lo hi))
  | .scr ds => some (.lst (cutD ds lo hi))
  | _ => none
def rCutU (K : PySem.W.Frag) : V → Option Int → Option Int → Hp → VK → Prop := fun x lo hi H Q => rSlS x lo hi H Q ∨ rSlA K x lo hi H Q ∨ rSlL K x lo hi H Q
theorem sl_U {X : Cx} : SlR X (rCutU X.K) := sl_str.or (sl_tupA.or sl_list)
def gCut (g : GE) (gl gh : GO) : GE := fun c => match g c with
  | some x => match gl c with
    | some lo => match gh c with
      | some hi => dCut x lo hi
      | none => none
    | none => none
  | none => none
theorem vt_cut {tl th : TO} {gl gh : GO} (he : VT K W0 b te g) (hl : VO K W0 tl gl) (hh : VO K W0 th gh) : VT K W0 b (tSl (rCutU K) te tl th) (gCut g gl gh) := by
  intro W σ c d Q k u s e q
  unfold gCut at e
  split at e
  · rename_i x hx
    split at e
    · rename_i lo hlo
      split at e
      · rename_i hi hhi
        refine he W σ c x _ k u s hx fun W1 v k1 g1 d1 => ?_
        refine hl W1 σ c lo _ k1 (u.gr g1) (s.gr g1) hlo fun W2 k2 g2 => ?_
        refine hh W2 σ c hi _ k2 ((u.gr g1).gr g2) ((s.gr g1).gr g2) hhi fun W3 k3 g3 => ?_
        have d3 := d1.up ((g2.trans g3).at b)
        have gg := g1.trans (g2.trans g3)
        unfold dCut at e
        split at e
        · split at e
          · rename_i hz
            cases e; cases d3
            exact .inl ⟨_, rfl, hz, q W3 _ k3 gg (.str _)⟩
          · cases e
        · cases e
          cases d3 with
          | tup h1 h2 =>
            refine .inr (.inl ⟨_, _, rfl, sqT_same (k3.atH b) h1, fun hw => ?_, fun hw p hp => ?_⟩)
            · refine q W3 _ k3 gg (.tup h1 ?_)
              unfold cutD
              rw [h2.length] at hw
              rw [hw.1, hw.2, Nat.sub_zero, List.drop_zero, List.take_length]
              exact h2
            · exact q (W3.new b p _) _ (new_ok k3 hp) (gg.trans (new_gr k3 hp)) (.tup (SqT.of new_self) (new_denL k3 hp (denL_cut h2 _ _)))
        · cases e
          cases d3 with
          | lst h1 h2 =>
            refine .inr (.inr ⟨_, _, rfl, SqL.of (k3.atH b _ _ h1), fun p hp => ?_⟩)
            exact q (W3.new b p _) _ (new_ok k3 hp) (gg.trans (new_gr k3 hp)) (.lst new_self (new_denL k3 hp (denL_cut h2 _ _)))
        · cases e
          cases d3 with
          | scr h1 h2 =>
            refine .inr (.inr ⟨_, _, rfl, (k3.atH b).seq h1, fun p hp => ?_⟩)
            exact q (W3.new b p _) _ (new_ok k3 hp) (gg.trans (new_gr k3 hp)) (.lst new_self (new_denL k3 hp (denL_cut h2 _ _)))
        · cases e
      · cases e
    · cases e
  · cases e

/-! ### calls of built-ins, by values -/
/-- the call rule r does f; its value as settled as its arguments -/
def RC (K : PySem.W.Frag) (r : List V → Hp → VK → Prop) (f : List D → Option D) : Prop :=
  ∀ (b : Bool) (W : Wd) (xs : List V) (ds : List D) (z : D) (Q : VK), WOk W → DenL K (W.at b) xs ds → f ds = some z → (∀ W' v, WOk W' → Gr W W' → Den K (W'.at b) v z → Q v W'.H) → r xs W.H Q
def RCS (K : PySem.W.Frag) (r : List V → Hp → VK → Prop) (f : List D → Option D) : Prop :=
  ∀ (W : Wd) (xs : List V) (ds : List D) (z : D) (Q : VK), WOk W → DenL K W.G xs ds → f ds = some z → (∀ v, (∀ H, Den K H v z) → Q v W.H) → r xs W.H Q
def gCall (f : List D → Option D) (gs : GA) : GE := fun c => match gs c with
  | some ds => f ds
  | none => none
theorem gCall_some {f : List D → Option D} {gs : GA} {c : Env} {d : D} (h : gCall f gs c = some d) : ∃ ds, gs c = some ds ∧ f ds = some d := by
  unfold gCall at h
  split at h
  · exact ⟨_, by assumption, h⟩
  · cases h
theorem vt_cb {r : List V → Hp → VK → Prop} {f : List D → Option D} {ts : TA} {gs : GA} (hr : RC K r f) (hs : VArg K W0 b ts gs) : VT K W0 b (tCB r ts) (gCall f gs) := by
  intro W σ c d Q k u s e q
  obtain ⟨ds, e1, e2⟩ := gCall_some e
  refine hs W σ c ds _ k u s e1 fun W1 vs k1 g1 d1 => ?_
  exact hr b W1 vs ds d Q k1 d1 e2 fun W2 v k2 g2 hd => q W2 v k2 (g1.trans g2) hd
theorem vt_cbS {r : List V → Hp → VK → Prop} {f : List D → Option D} {ts : TA} {gs : GA} (hr : RCS K r f) (hs : VArg K W0 b1 ts gs) : VT K W0 b (tCB r ts) (gCall f gs) := by
  intro W σ c d Q k u s e q
  obtain ⟨ds, e1, e2⟩ := gCall_some e
  refine hs W σ c ds _ k u s e1 fun W1 vs k1 g1 d1 => ?_
  exact hr W1 vs ds d Q k1 (d1.up (k1.atG b1)) e2 fun v hv => q W1 v k1 g1 (hv _)
def fLen : List D → Option D
  | [.str x] => if x.length ≤ sizeLine then some (.int x.length) else none
  | [d] => d.items.map fun ds => .int ds.length
  | _ => none
def rLenU (K : PySem.W.Frag) : List V → Hp → VK → Prop := fun xs H Q => ∃ x n, xs = [x] ∧ LenV K x H n ∧ Q (.int n) H
theorem call_lenU {X : Cx} : CallR X (.builtin "len") (rLenU X.K) := call_len
theorem rcs_len : RCS K (rLenU K) fLen := by
  intro W xs ds z Q k hd hf q
  unfold fLen at hf
  split at hf
  · split at hf
    · rename_i hz
      cases hf
      cases hd with
      | cons h1 h2 => cases h1; cases h2; exact ⟨_, _, rfl, ⟨hz, rfl⟩, q _ fun H => .int _⟩
    · cases hf
  · simp only [Option.map_eq_some_iff] at hf
    obtain ⟨es, e1, e2⟩ := hf
    subst e2
    cases hd with
    | cons h1 h2 =>
      cases h2
      obtain ⟨a, ys, rfl, hs, hd⟩ := den_items h1 e1
      refine ⟨_, es.length, rfl, ?_, q _ fun H => .int _⟩
      rcases hs with hs | hs
      · exact .inl ⟨ys, k.gh.seq hs, hd.length.symm⟩
      · exact .inr ⟨ys, sqT_same k.gh hs, hd.length.symm⟩
  · cases hf
def fInt : List D → Option D
  | [.int i] => some (.int i)
  | [.bl k] => some (.int (if k then 1 else 0))
  | _ => none
def rIntU : List V → Hp → VK → Prop := fun xs H Q => (∃ i, xs = [.int i] ∧ Q (.int i) H) ∨ ∃ k, xs = [.bl k] ∧ Q (.int (if k then 1 else 0)) H
theorem call_intU {X : Cx} : CallR X (.type "int") rIntU := call_int1
theorem rcs_int : RCS K rIntU fInt := by
  intro W xs ds z Q k hd hf q
  unfold fInt at hf
  split at hf
  · cases hf
    cases hd with
    | cons h1 h2 => cases h1; cases h2; exact .inl ⟨_, rfl, q _ fun H => .int _⟩
  · cases hf
    cases hd with
    | cons h1 h2 => cases h1; cases h2; exact .inr ⟨_, rfl, q _ fun H => .int _⟩
  · cases hf
def fMax : List D → Option D
  | [.int i, .int j] => some (.int (if j > i then j else i))
  | _ => none
def fMin : List D → Option D
  | [.int i, .int j] => some (.int (if j < i then j else i))
  | _ => none
def rMaxU : List V → Hp → VK → Prop := fun xs H Q => ∃ i j, xs = [.int i, .int j] ∧ Q (.int (if j > i then j else i)) H
def rMinU : List V → Hp → VK → Prop := fun xs H Q => ∃ i j, xs = [.int i, .int j] ∧ Q (.int (if j < i then j else i)) H
theorem call_maxU {X : Cx} (hc : X.calm = true) : CallR X (.builtin "max") rMaxU := call_max2 hc
theorem call_minU {X : Cx} (hc : X.calm = true) : CallR X (.builtin "min") rMinU := call_min2 hc
theorem rcs_max : RCS K rMaxU fMax := by
  intro W xs ds z Q k hd hf q
  unfold fMax at hf
  split at hf
  · cases hf
    cases hd with
    | cons h1 h2 =>
      cases h2 with
      | cons h2 h3 => cases h1; cases h2; cases h3; exact ⟨_, _, rfl, q _ fun H => .int _⟩
  · cases hf
theorem rcs_min : RCS K rMinU fMin := by
  intro W xs ds z Q k hd hf q
  unfold fMin at hf
  split at hf
  · cases hf
    cases hd with
    | cons h1 h2 =>
      cases h2 with
      | cons h2 h3 => cases h1; cases h2; cases h3; exact ⟨_, _, rfl, q _ fun H => .int _⟩
  · cases hf
/-- tuple(x) -/
def fTuple : List D → Option D
  | [d] => d.items.map .tup
  | _ => none
def rTupleU (K : PySem.W.Frag) : List V → Hp → VK → Prop := fun xs H Q => ∃ p ys, xs = [.ref p] ∧ ((SqL K H p ys ∧ ∀ l, H l = none → Q (.ref l) (upd H l (.tup ys))) ∨ (SqT K H p ys ∧ Q (.ref p) H))
theorem call_tupleU {X : Cx} : CallR X (.type "tuple") (rTupleU X.K) := call_tuple_of
theorem rc_tuple : RC K (rTupleU K) fTuple := by
  intro b W xs ds z Q k hd hf q
  unfold fTuple at hf
  split at hf
  · simp only [Option.map_eq_some_iff] at hf
    obtain ⟨es, e1, e2⟩ := hf
    subst e2
    cases hd with
    | cons h1 h2 =>
      cases h2
      obtain ⟨a, ys, rfl, hs, hd⟩ := den_items h1 e1
      refine ⟨a, ys, rfl, ?_⟩
      rcases hs with hs | hs
      · exact .inl ⟨(k.atH b).seq hs, fun p hp => q (W.new b p _) _ (new_ok k hp) (new_gr k hp) (.tup (SqT.of new_self) (new_denL k hp hd))⟩
      · exact .inr ⟨sqT_same (k.atH b) hs, q W _ k (Gr.refl W) (.tup hs hd)⟩
  · cases hf
/-- list(x), a list or a tuple -/
def rListU (K : PySem.W.Frag) : List V → Hp → VK → Prop := fun xs H Q => ∃ p ys, xs = [.ref p] ∧ (SqL K H p ys ∨ SqT K H p ys) ∧ ∀ l, H l = none → Q (.ref l) (upd H l (.lst ys))
theorem call_listU {X : Cx} : CallR X (.type "list") (rListU X.K) := call_list_of
def gItems (g : GE) : GA := fun c => match g c with
  | some d => d.items
  | none => none
theorem vn_list (h : VT K W0 true te g) : VN K W0 (tCB (rListU K) (tCons te tNil)) (gItems g) := by
  intro W σ c ds Q k u s e q
  unfold gItems at e
  split at e
  · rename_i d hd
    refine h W σ c d _ k u s hd fun W1 v k1 g1 d1 => ?_
    obtain ⟨a, ys, rfl, hs, hd⟩ := den_items d1 e
    refine ⟨a, ys, rfl, ?_, fun l hl => q W1 l ys k1 g1 hl hd⟩
    rcases hs with hs | hs
    · exact .inl (k1.fh.seq hs)
    · exact .inr (sqT_same k1.fh hs)
  · cases e
/-! isinstance of a built-in type -/
def D.ty : D → Option String
  | .non => some "NoneType" | .bl _ => some "bool" | .int _ => some "int" | .str _ => some "str" | .tup _ => some "tuple" | .lst _ => some "list" | .scr _ => some "list" | .ins _ _ _ => none
theorem ty_run {H : Hp} {v : V} {d : D} {n : String} (h : Den K H v d) (e : d.ty = some n) : TyX K H v (.type n) := by
  cases h with
  | non => cases e; exact .base .non
  | bl b => cases e; exact .base (.bl b)
  | int i => cases e; exact .base (.int i)
  | str x => cases e; exact .base (.str x)
  | tup h1 h2 =>
    cases e
    rcases h1 with (h1 | ⟨o, h1⟩) | ⟨o, its, n, h1, h2, _⟩
    · exact .base (.tup h1)
    · exact .fTuple h1
    · exact .kTuple h1 h2
  | lst h1 h2 => cases e; exact .base (.lst h1)
  | scr h1 h2 =>
    cases e
    rcases h1 with (h1 | ⟨o, h1⟩) | ⟨o, its, n, h1, h2, _⟩
    · exact .base (.lst h1)
    · exact .base (.frz h1)
    · exact .kList h1 h2
  | ins h1 h2 h3 => cases e
def dIsi (n : String) (d : D) : Option D := match d.ty with
  | some t => (kitB t n).map .bl
  | none => none
def gIsi (n : String) (g : GE) : GE := fun c => (g c).bind (dIsi n)
theorem vt_isi {n : String} (h : VT K W0 b1 te g) : VT K W0 b (tCB (rIsi K) (tCons te (tCons (tC (.ty n)) tNil))) (gIsi n g) := by
  intro W σ c d Q k u s e q
  unfold gIsi at e
  simp only [Option.bind_eq_some_iff] at e
  obtain ⟨x, e1, e2⟩ := e
  unfold dIsi at e2
  split at e2
  · rename_i t ht
    simp only [Option.map_eq_some_iff] at e2
    obtain ⟨r, e3, e4⟩ := e2
    subst e4
    refine h W σ c x _ k u s e1 fun W1 v k1 g1 d1 => ?_
    exact ⟨v, .ty n, .type t, .type n, r, rfl, .ty n, ty_run (d1.up (k1.atH b1)) ht, kit_ty e3, q W1 _ k1 g1 (.bl r)⟩
  · cases e2
theorem kb1 : kitB "int" "int" = some true := by decide +kernel
theorem kb2 : kitB "bool" "int" = some true := by decide +kernel
theorem kb3 : kitB "int" "bool" = some false := by decide +kernel
theorem kb4 : kitB "bool" "bool" = some true := by decide +kernel
theorem kb5 : kitB "str" "str" = some true := by decide +kernel
theorem kb6 : kitB "int" "str" = some false := by decide +kernel
theorem kb7 : kitB "str" "int" = some false := by decide +kernel
theorem kb8 : kitB "tuple" "tuple" = some true := by decide +kernel
theorem kb9 : kitB "list" "tuple" = some false := by decide +kernel
theorem kb10 : kitB "list" "list" = some true := by decide +kernel
theorem kb11 : kitB "tuple" "list" = some false := by decide +kernel
theorem kb12 : kitB "str" "list" = some false := by decide +kernel
theorem kb13 : kitB "str" "tuple" = some false := by decide +kernel
theorem kb14 : kitB "int" "list" = some false := by decide +kernel
theorem kb15 : kitB "int" "tuple" = some false := by decide +kernel
end
end VL
end

section
/-! VC: statements, loops, comprehensions, defs by data. -/
namespace VL
open PySem PySem.Spec PyProof.Rows L2

inductive Out where
  | nx (c : Env) | ret (d : D) | bk (c : Env) | ct (c : Env)
  | ex (C : Addr) (ns : List Str) (ds : List D)
abbrev GS := Env → Option Out
def NxP (K : PySem.W.Frag) (W0 : Wd) (Fs : Hp) (P : L2.St → Hp → Prop) (c : Env) : Prop :=
  ∀ W σ, WOk W → Up W0 W → Same Fs W.F → SD K W0 W σ c → P σ W.H
def Post (K : PySem.W.Frag) (E : XK) (W0 : Wd) (Fs : Hp) (D : Ends) : Option Out → Prop
  | none => False
  | some (.nx c) => NxP K W0 Fs D.nx c
  | some (.bk c) => NxP K W0 Fs D.bk c
  | some (.ct c) => NxP K W0 Fs D.ct c
  | some (.ret d) => ∀ W v, WOk W → Up W0 W → Same Fs W.F → Den K W.F v d → D.rt v W.H
  | some (.ex C ns ds) => ∀ W dx fs, WOk W → Up W0 W → Same Fs W.F → W.H dx = some (.xd fs) → W0.H dx = none → fs.map (·.1) = ns → DenL K W.F (fs.map (·.2)) ds → E (.ref C) (some dx) W.H
def VS (K : PySem.W.Frag) (W0 : Wd) (E : XK) (ts : TS) (g : GS) : Prop :=
  ∀ (W : Wd) (σ : L2.St) (c : Env) (D : Ends), WOk W → Up W0 W → SD K W0 W σ c → Post K E W0 W.F D (g c) → ts D σ W.H
section
variable {K : PySem.W.Frag} {E : XK}
theorem NxP.mono {W0 : Wd} {F F' : Hp} {P : L2.St → Hp → Prop} {c : Env} (h : NxP K W0 F P c) (e : Same F F') : NxP K W0 F' P c :=
  fun W σ k u f s => h W σ k u (e.trans f) s
theorem Post.mono {W0 : Wd} {F F' : Hp} {D : Ends} (e : Same F F') : ∀ {o : Option Out}, Post K E W0 F D o → Post K E W0 F' D o
  | none, h => h
  | some (.nx c), h => NxP.mono h e
  | some (.bk c), h => NxP.mono h e
  | some (.ct c), h => NxP.mono h e
  | some (.ret d), h => fun W v k u f => h W v k u (e.trans f)
  | some (.ex C ns ds), h => fun W dx fs k u f => h W dx fs k u (e.trans f)

/-! blocks -/
def gNext : GS := fun c => some (.nx c)
def gNever : GS := fun _ => none
def gSeq (g1 g2 : GS) : GS := fun c => match g1 c with
  | some (.nx c') => g2 c'
  | r => r
theorem vs_next : VS K W0 E tNext gNext := fun W σ c D k u s h => h W σ k u (Same.refl _) s
theorem vs_never : VS K W0 E tNever gNever := fun W σ c D k u s h => h
theorem vs_seq {t1 t2 : TS} {g1 g2 : GS} (h1 : VS K W0 E t1 g1) (h2 : VS K W0 E t2 g2) : VS K W0 E (tSeq t1 t2) (gSeq g1 g2) := by
  intro W σ c D k u s h
  refine h1 W σ c { D with nx := t2 D } k u s ?_
  unfold gSeq at h
  cases e : g1 c with
  | none => rw [e] at h; exact h
  | some o =>
    rw [e] at h
    cases o with
    | nx c' => exact fun W' σ' k' u' f' s' => h2 W' σ' c' D k' u' s' (h.mono f')
    | ret d => exact h
    | bk c => exact h
    | ct c => exact h
    | ex C ns ds => exact h
def gBreak : GS := fun c => some (.bk c)
def gCont : GS := fun c => some (.ct c)
theorem vs_break : VS K W0 E tBreak gBreak := fun W σ c D k u s h => h W σ k u (Same.refl _) s
theorem vs_cont : VS K W0 E tCont gCont := fun W σ c D k u s h => h W σ k u (Same.refl _) s
def gIf (p : GB) (g1 g2 : GS) : GS := fun c => match p c with
  | some true => g1 c
  | some false => g2 c
  | none => none
theorem vs_if {tt : TT} {p : GB} {t1 t2 : TS} {g1 g2 : GS} (h : VB K W0 tt p) (h1 : VS K W0 E t1 g1) (h2 : VS K W0 E t2 g2) : VS K W0 E (tIfS tt t1 t2) (gIf p g1 g2) := by
  intro W σ c D k u s q
  unfold gIf at q
  cases e : p c with
  | none => rw [e] at q; exact q.elim
  | some b =>
    rw [e] at q
    refine h W σ c b _ k u s e fun W' k' g' => ?_
    cases b with
    | true => rw [if_pos rfl]; exact h1 W' σ c D k' (u.gr g') (s.gr g') (q.mono g'.f)
    | false => rw [if_neg Bool.false_ne_true]; exact h2 W' σ c D k' (u.gr g') (s.gr g') (q.mono g'.f)

/-! lists of one's own are settled -/
def frzCell : Option Cell → Option Cell
  | some (.own ds) => some (.fz (.lst ds))
  | x => x
theorem sd_frz {W0 W : Wd} {σ : L2.St} {c c' : Env} (k : WOk W) (u : Up W0 W) (s : SD K W0 W σ c) (hl : c'.length = c.length) (hc : ∀ (i : Nat) y, c[i]? = some y → c'[i]? = some y ∨ c'[i]? = some (frzCell y)) :
    ∃ W', W'.H = W.H ∧ WOk W' ∧ Up W0 W' ∧ Same W.F W'.F ∧ SD K W0 W' σ c' := by
  classical
  let own : Addr → Prop := fun a => ∃ (i : Nat) (ds : List D), c[i]? = some (some (.own ds)) ∧ c'[i]? = some (some (.fz (.lst ds))) ∧ σ[i]? = some (some (.ref a))
  let F' : Hp := fun a => if own a then W.G a else W.F a
  have ff : Same W.F F' := fun a o e => by
    show (if own a then W.G a else W.F a) = some o
    split
    · exact k.fg _ _ e
    · exact e
  have key : ∀ a, own a → ∃ vs ds, W.H a = some (.lst vs) ∧ W.G a = some (.lst vs) ∧ W0.H a = none ∧ DenL K W.F vs ds := by
    rintro a ⟨i, ds, h1, h2, h3⟩
    obtain ⟨l, vs, e1, e2, e3, e4, e5, e6⟩ := s.ok i _ _ h3 h1
    cases e1
    exact ⟨vs, ds, e2, e3, e5, e6⟩
  refine ⟨⟨W.H, W.G, F'⟩, rfl, ⟨fun a o e => ?_, k.gh, fun a xs e ht => ff a _ (k.gt a xs e ht)⟩, ⟨u.h, u.f.trans ff, fun a o e => ?_⟩, ff, ⟨by rw [hl]; exact s.len, fun i x y h1 h2 => ?_, fun i j x y z w l h1 h2 h3 h4 h5 h6 => ?_⟩⟩
  · have e' : (if own a then W.G a else W.F a) = some o := e
    split at e'
    · exact e'
    · exact k.fg _ _ e'
  · show (if own a then W.G a else W.F a) = W0.F a
    split
    · rename_i ho
      obtain ⟨_, _, _, _, z, _⟩ := key a ho
      rw [z] at e; cases e
    · exact u.fo a o e
  · have hi : i < c.length := by
      have := (List.getElem?_eq_some_iff.mp h2).1
      omega
    have hci : c[i]? = some c[i] := List.getElem?_eq_getElem hi
    have okc := s.ok i x _ h1 hci
    cases hcell : c[i] with
    | none =>
      rw [hcell] at hci okc
      rcases hc i _ hci with z | z <;> (rw [h2] at z; cases z; trivial)
    | some cl =>
      rw [hcell] at hci okc
      cases cl with
      | fz d =>
        rcases hc i _ hci with z | z <;> (rw [h2] at z; cases z; obtain ⟨v, e1, e2⟩ := okc; exact ⟨v, e1, e2.up ff⟩)
      | own ds =>
        obtain ⟨l, vs, e1, e2, e3, e4, e5, e6⟩ := okc
        rcases hc i _ hci with z | z
        · rw [h2] at z; cases z
          refine ⟨l, vs, e1, e2, e3, ?_, e5, e6.up ff⟩
          show (if own l then W.G l else W.F l) = none
          split
          · rename_i ho
            obtain ⟨j, ds', q1, q2, q3⟩ := ho
            have hij := s.one i j _ _ _ _ l h1 hci q3 q1 ⟨e1, rfl⟩ ⟨rfl, rfl⟩
            subst hij
            rw [h2] at q2; cases q2
          · exact e4
        · rw [h2] at z; cases z
          subst e1
          refine ⟨_, rfl, .lst ?_ (e6.up ff)⟩
          show (if own l then W.G l else W.F l) = some (.lst vs)
          rw [if_pos ⟨i, ds, hci, h2, h1⟩]
          exact e3
      | exc C ns ds =>
        obtain ⟨fs, e1, e2, e3, e4⟩ := okc
        rcases hc i _ hci with z | z <;> (rw [h2] at z; cases z; exact ⟨fs, e1, e2, e3, e4.up ff⟩)
      | slf C ns ds =>
        obtain ⟨fs, e1, e2, e3, e4, e5, e6, e7⟩ := okc
        have fin : (if own W0.sa then W.G W0.sa else W.F W0.sa) = none := by
          split
          · exact e3
          · exact e4
        rcases hc i _ hci with z | z <;> (rw [h2] at z; cases z; exact ⟨fs, e1, e2, e3, fin, e5, e6, e7.up ff⟩)
  · have back : ∀ (i : Nat) y x, c'[i]? = some y → Holds x y l → ∃ y', c[i]? = some y' ∧ Holds x y' l := by
      intro i y x q1 q2
      have hi : i < c.length := by
        have := (List.getElem?_eq_some_iff.mp q1).1
        omega
      have hci : c[i]? = some c[i] := List.getElem?_eq_getElem hi
      rcases hc i _ hci with z | z
      · rw [q1] at z; cases z; exact ⟨_, hci, q2⟩
      · rw [q1] at z
        have z' : y = frzCell c[i] := Option.some.inj z
        cases hcell : c[i] with
        | none => rw [hcell] at z'; subst z'; exact absurd q2.2 Bool.false_ne_true
        | some cl =>
          rw [hcell] at z'
          cases cl with
          | fz d => subst z'; exact absurd q2.2 Bool.false_ne_true
          | own es => subst z'; exact absurd q2.2 Bool.false_ne_true
          | exc C ns es => subst z'; exact absurd q2.2 Bool.false_ne_true
          | slf C ns es => subst z'; exact ⟨_, by rw [hci, hcell]; rfl, q2⟩
    obtain ⟨y1, a1, b1⟩ := back i y x h2 h5
    obtain ⟨y2, a2, b2⟩ := back j w z h4 h6
    exact s.one i j _ _ _ _ l h1 a1 h3 a2 b1 b2
def frz (i : Nat) (c : Env) : Env := match c[i]? with
  | some (some (.own ds)) => c.set i (some (.fz (.lst ds)))
  | _ => c
def gFrz (i : Nat) (g : GS) : GS := fun c => g (frz i c)
theorem vs_frz (i : Nat) {t : TS} {g : GS} (h : VS K W0 E t g) : VS K W0 E t (gFrz i g) := by
  intro W σ c D k u s q
  have hfr : ∃ W', W'.H = W.H ∧ WOk W' ∧ Up W0 W' ∧ Same W.F W'.F ∧ SD K W0 W' σ (frz i c) := by
    refine sd_frz k u s ?_ fun j y hj => ?_
    · unfold frz; split <;> simp
    · unfold frz
      split
      · rename_i ds hd
        by_cases hij : i = j
        · subst hij
          rw [hj] at hd; cases hd
          right
          rw [List.getElem?_set_self (List.getElem?_eq_some_iff.mp hj).1]
          rfl
        · left; rw [List.getElem?_set_ne hij]; exact hj
      · left; exact hj
  obtain ⟨W', e, k', u', f', s'⟩ := hfr
  rw [← e]
  exact h W' σ _ D k' u' s' (q.mono f')
def frzAll (c : Env) : Env := c.map frzCell
def gRet (g : GE) : GS := fun c => match g (frzAll c) with
  | some d => some (.ret d)
  | none => none
theorem vs_ret {te : TE} {g : GE} (h : VT K W0 true te g) : VS K W0 E (tRet te) (gRet g) := by
  intro W σ c D k u s q
  obtain ⟨W', e, k', u', f', s'⟩ := sd_frz (c' := frzAll c) k u s (by simp [frzAll]) (fun i y hy => .inr (by simp [frzAll, hy]))
  unfold gRet at q
  cases hg : g (frzAll c) with
  | none => rw [hg] at q; exact q.elim
  | some d =>
    rw [hg] at q
    show te σ W.H D.rt
    rw [← e]
    exact h W' σ _ d _ k' u' s' hg fun W2 v k2 g2 hd => q W2 v k2 (u'.gr g2) (f'.trans g2.f) hd
def gRetN : GS := fun _ => some (.ret .non)
theorem vs_retN : VS K W0 E tRetN gRetN := fun W σ c D k u s q => q W .non k u (Same.refl _) .non

/-! assignments -/
theorem sd_set {W0 W : Wd} {σ : L2.St} {c : Env} (s : SD K W0 W σ c) (i : Nat) (x : Option V) (y : Option Cell) (h : CellOk K W0 W x y)
    (hn : ∀ l, Holds x y l → ∀ (j : Nat) z w, σ[j]? = some z → c[j]? = some w → ¬ Holds z w l) : SD K W0 W (σ.set i x) (c.set i y) := by
  refine ⟨by simp [s.len], fun j z w h1 h2 => ?_, fun j m z w z' w' l h1 h2 h3 h4 h5 h6 => ?_⟩
  · by_cases hij : i = j
    · subst hij
      have hi : i < σ.length := by have := (List.getElem?_eq_some_iff.mp h1).1; simpa using this
      have hi' : i < c.length := by have := (List.getElem?_eq_some_iff.mp h2).1; simpa using this
      rw [List.getElem?_set_self hi] at h1
      rw [List.getElem?_set_self hi'] at h2
      cases h1; cases h2; exact h
    · rw [List.getElem?_set_ne hij] at h1 h2
      exact s.ok j z w h1 h2
  · have sel : ∀ (j : Nat) z w, (σ.set i x)[j]? = some z → (c.set i y)[j]? = some w → (j = i ∧ z = x ∧ w = y) ∨ (j ≠ i ∧ σ[j]? = some z ∧ c[j]? = some w) := by
      intro j z w h1 h2
      by_cases hij : i = j
      · subst hij
        have hi : i < σ.length := by have := (List.getElem?_eq_some_iff.mp h1).1; simpa using this
        have hi' : i < c.length := by have := (List.getElem?_eq_some_iff.mp h2).1; simpa using this
        rw [List.getElem?_set_self hi] at h1
        rw [List.getElem?_set_self hi'] at h2
        cases h1; cases h2; exact .inl ⟨rfl, rfl, rfl⟩
      · rw [List.getElem?_set_ne hij] at h1 h2
        exact .inr ⟨Ne.symm hij, h1, h2⟩
    rcases sel j z w h1 h2 with ⟨a1, a2, a3⟩ | ⟨a1, a2, a3⟩
    · rcases sel m z' w' h3 h4 with ⟨b1, b2, b3⟩ | ⟨b1, b2, b3⟩
      · rw [a1, b1]
      · subst a2 a3; exact (hn l h5 m z' w' b2 b3 h6).elim
    · rcases sel m z' w' h3 h4 with ⟨b1, b2, b3⟩ | ⟨b1, b2, b3⟩
      · subst b2 b3; exact (hn l h6 j z w a2 a3 h5).elim
      · exact s.one j m z w z' w' l a2 a3 b2 b3 h5 h6
theorem noHold_fz {x : Option V} {d : D} {l : Addr} : ¬ Holds x (some (.fz d)) l := fun h => absurd h.2 Bool.false_ne_true
theorem noHold_none {x : Option V} {l : Addr} : ¬ Holds x none l := fun h => absurd h.2 Bool.false_ne_true
theorem sd_fz {W0 W : Wd} {σ : L2.St} {c : Env} (s : SD K W0 W σ c) (i : Nat) {v : V} {d : D} (h : Den K W.F v d) : SD K W0 W (σ.set i (some v)) (c.set i (some (.fz d))) :=
  sd_set s i _ _ ⟨v, rfl, h⟩ fun l h => (noHold_fz h).elim
/-- a target: which slots it stores, what it makes of the cells -/
def VG (K : PySem.W.Frag) (W0 : Wd) (tg : TG) (js : List Nat) (f : D → Env → Option Env) : Prop :=
  ∀ (W : Wd) (σ : L2.St) (c c' : Env) (v : V) (d : D) (Q : L2.St → Hp → Prop), WOk W → SD K W0 W σ c → Den K W.F v d → f d c = some c' →
    (∀ σ', SD K W0 W σ' c' → σ'.length = σ.length → (∀ k, k ∉ js → σ'[k]? = σ[k]?) → Q σ' W.H) → tg v σ W.H Q
def VGs (K : PySem.W.Frag) (W0 : Wd) (tg : TGs) (js : List Nat) (f : List D → Env → Option Env) : Prop :=
  ∀ (W : Wd) (σ : L2.St) (c c' : Env) (vs : List V) (ds : List D) (Q : L2.St → Hp → Prop), WOk W → SD K W0 W σ c → DenL K W.F vs ds → f ds c = some c' →
    (∀ σ', SD K W0 W σ' c' → σ'.length = σ.length → (∀ k, k ∉ js → σ'[k]? = σ[k]?) → Q σ' W.H) → tg vs σ W.H Q
def fName (i : Nat) : D → Env → Option Env := fun d c => some (c.set i (some (.fz d)))
theorem vg_name (i : Nat) : VG K W0 (gName i) [i] (fName i) := by
  intro W σ c c' v d Q k s hd e q
  cases e
  refine q _ (sd_fz s i hd) (by simp) fun j hj => List.getElem?_set_ne ?_
  simp at hj; exact Ne.symm hj
def fNil : List D → Env → Option Env
  | [], c => some c
  | _, _ => none
def fCons (f : D → Env → Option Env) (fs : List D → Env → Option Env) : List D → Env → Option Env
  | d :: ds, c => match f d c with
    | some c' => fs ds c'
    | none => none
  | [], _ => none
def fTup (n : Nat) (fs : List D → Env → Option Env) : D → Env → Option Env
  | .tup ds, c => if ds.length = n then fs ds c else none
  | _, _ => none
theorem vgs_nil : VGs K W0 L2.gNil [] fNil := by
  intro W σ c c' vs ds Q k s hd e q
  cases ds with
  | nil => cases e; cases hd; exact ⟨rfl, q σ s rfl fun _ _ => rfl⟩
  | cons d ds => cases e
theorem vgs_cons {t : TG} {ts : TGs} {js ks : List Nat} {f : D → Env → Option Env} {fs : List D → Env → Option Env} (h : VG K W0 t js f) (hs : VGs K W0 ts ks fs) : VGs K W0 (L2.gCons t ts) (js ++ ks) (fCons f fs) := by
  intro W σ c c' vs ds Q k s hd e q
  cases ds with
  | nil => cases e
  | cons d ds =>
    cases hd with
    | cons h1 h2 =>
      simp only [fCons] at e
      split at e
      · rename_i c1 hc1
        refine ⟨_, _, rfl, h W σ c c1 _ d _ k s h1 hc1 fun σ1 s1 l1 a1 => hs W σ1 c1 c' _ ds _ k s1 h2 e fun σ2 s2 l2 a2 => q σ2 s2 (l2.trans l1) fun j hj => ?_⟩
        rw [List.mem_append] at hj
        exact (a2 j fun z => hj (.inr z)).trans (a1 j fun z => hj (.inl z))
      · cases e
theorem vg_tup {n : Nat} {ts : TGs} {js : List Nat} {fs : List D → Env → Option Env} (hs : VGs K W0 ts js fs) : VG K W0 (L2.gTup K n ts) js (fTup n fs) := by
  intro W σ c c' v d Q k s hd e q
  unfold fTup at e
  split at e
  · split at e
    · rename_i hn
      cases hd with
      | tup h1 h2 => exact ⟨_, _, rfl, sqT_same k.fh h1, by rw [h2.length]; exact hn, hs W σ c c' _ _ Q k s h2 e q⟩
    · cases e
  · cases e
def gAsg (g : GE) (f : D → Env → Option Env) : GS := fun c => match g c with
  | some d => match f d c with
    | some c' => some (.nx c')
    | none => none
  | none => none
theorem vs_asg {te : TE} {g : GE} {tg : TG} {js : List Nat} {f : D → Env → Option Env} (h : VT K W0 true te g) (hg : VG K W0 tg js f) : VS K W0 E (tAsg te tg) (gAsg g f) := by
  intro W σ c D k u s q
  unfold gAsg at q
  cases e : g c with
  | none => rw [e] at q; exact q.elim
  | some d =>
    rw [e] at q
    refine h W σ c d _ k u s e fun W' v k' g' hd => ?_
    cases e2 : f d c with
    | none => simp only [e2] at q; exact q.elim
    | some c' =>
      simp only [e2] at q
      exact hg W' σ c c' v d _ k' (s.gr g') hd e2 fun σ' s' _ _ => q W' σ' k' (u.gr g') g'.f s'
/-- name = a new list -/
def gAsgN (i : Nat) (g : GA) : GS := fun c => match g c with
  | some ds => some (.nx (c.set i (some (.own ds))))
  | none => none
theorem hold_there {W0 W : Wd} {σ : L2.St} {c : Env} (s : SD K W0 W σ c) {j : Nat} {z : Option V} {w : Option Cell} {l : Addr} (h1 : σ[j]? = some z) (h2 : c[j]? = some w) (h : Holds z w l) : ∃ o, W.H l = some o := by
  obtain ⟨g1, g2⟩ := h
  have q := s.ok j z w h1 h2
  cases w with
  | none => exact absurd g2 Bool.false_ne_true
  | some cl =>
    cases cl with
    | fz d => exact absurd g2 Bool.false_ne_true
    | own ds =>
      obtain ⟨l', vs, e1, e2, _⟩ := q
      rw [g1] at e1; cases e1
      exact ⟨_, e2⟩
    | exc C ns ds => exact absurd g2 Bool.false_ne_true
    | slf C ns ds =>
      obtain ⟨fs, e1, e2, _⟩ := q
      rw [g1] at e1; cases e1
      exact ⟨_, e2⟩
theorem vs_asgN {i : Nat} {te : TE} {g : GA} (h : VN K W0 te g) : VS K W0 E (tAsg te (gName i)) (gAsgN i g) := by
  intro W σ c D k u s q
  unfold gAsgN at q
  cases e : g c with
  | none => rw [e] at q; exact q.elim
  | some ds =>
    rw [e] at q
    refine h W σ c ds _ k u s e fun W' l vs k' g' hl hd => ?_
    have k2 : WOk (W'.new false l (.lst vs)) := new_ok k' hl
    have g2 : Gr W' (W'.new false l (.lst vs)) := new_gr k' hl
    have nW0 : W0.H l = none := (u.gr g').h.free hl
    refine q (W'.new false l (.lst vs)) _ k2 ((u.gr g').gr g2) (g'.f.trans g2.f) (sd_set ((s.gr g').gr g2) i _ _ ?_ ?_)
    · exact ⟨l, vs, rfl, upd_same, upd_same, k'.nF hl, nW0, hd⟩
    · rintro l' ⟨h1, _⟩ j z w h3 h4 h5
      cases h1
      obtain ⟨o, ho⟩ := hold_there (s.gr g') h3 h4 h5
      rw [hl] at ho; cases ho
def gDrop (g : GE) : GS := fun c => match g c with
  | some _ => some (.nx c)
  | none => none
theorem vs_expr {b : Bool} {te : TE} {g : GE} (h : VT K W0 b te g) : VS K W0 E (tDrop te) (gDrop g) := by
  intro W σ c D k u s q
  unfold gDrop at q
  cases e : g c with
  | none => rw [e] at q; exact q.elim
  | some d =>
    rw [e] at q
    exact h W σ c d _ k u s e fun W' v k' g' hd => q W' σ k' (u.gr g') g'.f (s.gr g')

/-! a list of one's own is changed -/
def Wd.wr (W : Wd) (l : Addr) (o : HO) : Wd := ⟨upd W.H l o, upd W.G l o, W.F⟩
theorem wr_sd {W0 W : Wd} {σ : L2.St} {c : Env} (k : WOk W) (u : Up W0 W) (s : SD K W0 W σ c) {i : Nat} {l : Addr} {vs us : List V} {ds es : List D} (hσ : σ[i]? = some (some (.ref l))) (hc : c[i]? = some (some (.own ds)))
    (hd : DenL K W.F us es) : WOk (W.wr l (.lst us)) ∧ Up W0 (W.wr l (.lst us)) ∧ SD K W0 (W.wr l (.lst us)) σ (c.set i (some (.own es))) := by
  obtain ⟨l', vs', e1, e2, e3, e4, e5, e6⟩ := s.ok i _ _ hσ hc
  cases e1
  have neF : ∀ a o, W.F a = some o → a ≠ l := fun a o e z => by rw [z, e4] at e; cases e
  refine ⟨⟨fun a o e => ?_, same_upd2 k.gh, fun a xs e ht => by
    have e' : upd W.G l (.lst us) a = some xs := e
    by_cases h : a = l
    · subst h; rw [upd_same] at e'; cases e'; cases ht
    · rw [upd_ne h] at e'; exact k.gt a xs e' ht⟩, ⟨fun a o e => ?_, u.f, u.fo⟩, ⟨by simp [s.len], fun j x y h1 h2 => ?_, fun j m x y z w l' h1 h2 h3 h4 h5 h6 => ?_⟩⟩
  · show upd W.G l _ a = some o
    rw [upd_ne (neF a o e)]
    exact k.fg a o e
  · show upd W.H l _ a = some o
    rw [upd_ne (fun z => by rw [z, e5] at e; cases e)]
    exact u.h a o e
  · by_cases hij : i = j
    · subst hij
      rw [List.getElem?_set_self (List.getElem?_eq_some_iff.mp hc).1] at h2
      cases h2
      rw [hσ] at h1; cases h1
      exact ⟨l, us, rfl, upd_same, upd_same, e4, e5, hd⟩
    · rw [List.getElem?_set_ne hij] at h2
      have q := s.ok j x y h1 h2
      have nl : ∀ l', Holds x y l' → l' ≠ l := fun l' h z => by
        subst z
        exact hij (s.one i j _ _ _ _ l' hσ hc h1 h2 ⟨rfl, rfl⟩ h)
      cases y with
      | none => trivial
      | some cl =>
        cases cl with
        | fz d => exact q
        | own es' =>
          obtain ⟨l2, vs2, a1, a2, a3, a4, a5, a6⟩ := q
          have ne := nl l2 ⟨a1, rfl⟩
          exact ⟨l2, vs2, a1, (upd_ne ne).trans a2, (upd_ne ne).trans a3, a4, a5, a6⟩
        | exc C ns es' =>
          obtain ⟨fs, a1, a2, a3, a4⟩ := q
          exact ⟨fs, a1, (upd_ne (ne_of a2 e2 (by intro z; cases z))).trans a2, a3, a4⟩
        | slf C ns es' =>
          obtain ⟨fs, a1, a2, a3, a4, a5, a6, a7⟩ := q
          have ne := nl W0.sa ⟨a1, rfl⟩
          exact ⟨fs, a1, (upd_ne ne).trans a2, (upd_ne ne).trans a3, a4, a5, a6, a7⟩
  · have back : ∀ (j : Nat) x y, σ[j]? = some x → (c.set i (some (.own es)))[j]? = some y → Holds x y l' → ∃ y', c[j]? = some y' ∧ Holds x y' l' := by
      intro j x y q1 q2 q3
      by_cases hij : i = j
      · subst hij
        rw [List.getElem?_set_self (List.getElem?_eq_some_iff.mp hc).1] at q2
        cases q2
        exact ⟨_, hc, q3.1, rfl⟩
      · rw [List.getElem?_set_ne hij] at q2
        exact ⟨_, q2, q3⟩
    obtain ⟨y1, a1, b1⟩ := back j x y h1 h2 h5
    obtain ⟨y2, a2, b2⟩ := back m z w h3 h4 h6
    exact s.one j m _ _ _ _ l' h1 a1 h3 a2 b1 b2
def gAppend (i : Nat) (g : GE) : GS := fun c => match c[i]? with
  | some (some (.own ds)) => match g c with
    | some d => if ds.length < sizeLine then some (.nx (c.set i (some (.own (ds ++ [d]))))) else none
    | none => none
  | _ => none
theorem vs_append {i : Nat} {te : TE} {g : GE} (h : VT K W0 true te g) : VS K W0 E (tDrop (tBM K "list" rAppend (tVar i) (tCons te tNil))) (gAppend i g) := by
  intro W σ c D k u s q
  unfold gAppend at q
  split at q
  · rename_i ds hc
    cases e : g c with
    | none => rw [e] at q; exact q.elim
    | some d =>
      simp only [e] at q
      by_cases hz : ds.length < sizeLine
      · rw [if_pos hz] at q
        obtain ⟨x, hx, l, vs, rfl, h1, h2, h3, h4, h5⟩ := s.at hc
        refine ⟨_, hx, .inl ⟨rfl, _, SqL.of h1⟩, h W σ c d _ k u s e fun W' v k' g' hd => ?_⟩
        refine ⟨l, vs, v, rfl, rfl, g'.h _ _ h1, by rw [h5.length]; exact hz, ?_⟩
        obtain ⟨k2, u2, s2⟩ := wr_sd (vs := vs) k' (u.gr g') (s.gr g') hx hc ((h5.up g'.f).append (.cons hd .nil))
        exact q (W'.wr l (.lst (vs ++ [v]))) σ k2 u2 g'.f s2
      · rw [if_neg hz] at q; exact q.elim
  · exact q.elim
/-- x[k] = e -/
def gSetIx (i : Nat) (gk ge : GE) : GS := fun c => match c[i]? with
  | some (some (.own ds)) => match ge c with
    | some d => match gk c with
      | some (.int j) => match ixN ds.length j with
        | some n => some (.nx (c.set i (some (.own (ds.set n d)))))
        | none => none
      | _ => none
    | none => none
  | _ => none
theorem vs_setIx {i : Nat} {b : Bool} {tk te : TE} {gk ge : GE} (hk : VT K W0 b tk gk) (he : VT K W0 true te ge) : VS K W0 E (tAsg te (gSub (tVar i) tk rSetL)) (gSetIx i gk ge) := by
  intro W σ c D k u s q
  unfold gSetIx at q
  split at q
  · rename_i ds hc
    cases e : ge c with
    | none => rw [e] at q; exact q.elim
    | some d =>
      simp only [e] at q
      cases e2 : gk c with
      | none => rw [e2] at q; exact q.elim
      | some z =>
        cases z with
        | int j =>
          simp only [e2] at q
          cases e3 : ixN ds.length j with
          | none => rw [e3] at q; exact q.elim
          | some n =>
            simp only [e3] at q
            obtain ⟨x, hx, l, vs, rfl, h1, h2, h3, h4, h5⟩ := s.at hc
            refine he W σ c d _ k u s e fun W1 v k1 g1 hd => ⟨_, hx, ?_⟩
            refine hk W1 σ c _ _ k1 (u.gr g1) (s.gr g1) e2 fun W2 v2 k2 g2 hd2 => ?_
            cases hd2
            refine ⟨l, vs, j, n, rfl, rfl, g2.h _ _ (g1.h _ _ h1), by rw [h5.length]; exact e3, ?_⟩
            obtain ⟨k3, u3, s3⟩ := wr_sd (vs := vs) k2 ((u.gr g1).gr g2) ((s.gr g1).gr g2) hx hc (DenL.set n ((h5.up g1.f).up g2.f) (hd.up g2.f))
            exact q (W2.wr l (.lst (vs.set n v))) σ k3 u3 (g1.f.trans g2.f) s3
        | _ => simp only [e2] at q; exact q.elim
  · exact q.elim
/-- name op= e, ints -/
def gAug (i : Nat) (f : D → D → Option D) (g : GE) : GS := fun c => match gVar i c with
  | some x => match g c with
    | some y => match f x y with
      | some z => some (.nx (c.set i (some (.fz z))))
      | none => none
    | none => none
  | none => none
def dAddI : D → D → Option D
  | .int i, .int j => some (.int (i + j))
  | _, _ => none
theorem vs_augI {i : Nat} {b : Bool} {te : TE} {g : GE} {f : Int → Int → Int} {fd : D → D → Option D} (hf : ∀ x y z, fd x y = some z → ∃ a b, x = .int a ∧ y = .int b ∧ z = .int (f a b)) (h : VT K W0 b te g) : VS K W0 E (tAug i te (ipI f)) (gAug i fd g) := by
  intro W σ c D k u s q
  unfold gAug at q
  cases e1 : gVar i c with
  | none => rw [e1] at q; exact q.elim
  | some x =>
    simp only [e1] at q
    cases e2 : g c with
    | none => rw [e2] at q; exact q.elim
    | some y =>
      simp only [e2] at q
      cases e3 : fd x y with
      | none => rw [e3] at q; exact q.elim
      | some z =>
        simp only [e3] at q
        obtain ⟨a, a', rfl, rfl, rfl⟩ := hf x y z e3
        unfold gVar at e1
        split at e1
        · rename_i d hc
          cases e1
          obtain ⟨w, hw, v, rfl, hv⟩ := s.at hc
          cases hv
          refine ⟨_, hw, h W σ c _ _ k u s e2 fun W' v k' g' hd => ?_⟩
          cases hd
          exact ⟨a, a', rfl, rfl, q W' _ k' (u.gr g') g'.f (sd_fz (s.gr g') i (.int _))⟩
        · cases e1
theorem aug_add : ∀ x y z, dAddI x y = some z → ∃ a b, x = .int a ∧ y = .int b ∧ z = .int ((fun i j : Int => i + j) a b) := by
  intro x y z h
  unfold dAddI at h
  split at h
  · cases h; exact ⟨_, _, rfl, rfl, rfl⟩
  · cases h
theorem aug_sub : ∀ x y z, dSub x y = some z → ∃ a b, x = .int a ∧ y = .int b ∧ z = .int ((fun i j : Int => i - j) a b) := by
  intro x y z h
  unfold dSub at h
  split at h
  · cases h; exact ⟨_, _, rfl, rfl, rfl⟩
  · cases h

/-! ### loops -/
/-- the walk J yields ds, one after another, while F stands -/
def Yields (K : PySem.W.Frag) (F : Hp) (J : It) (ds : List D) : Prop :=
  ∀ (W : Wd) (i : Nat), WOk W → Same F W.F → (ds.length ≤ i → J.stop i W.H) ∧ (∀ d, ds[i]? = some d → J.go i W.H ∧ ∀ x H', J.yld i W.H x H' → ∃ W', WOk W' ∧ Gr W W' ∧ W'.H = H' ∧ Den K W'.F x d)
def VI (K : PySem.W.Frag) (W0 : Wd) (wi : TI) (g : GA) : Prop :=
  ∀ (W : Wd) (σ : L2.St) (c : Env) (ds : List D) (R : It → Hp → Prop), WOk W → Up W0 W → SD K W0 W σ c → g c = some ds → (∀ W' J, WOk W' → Gr W W' → Yields K W'.F J ds → R J W'.H) → wi σ W.H R
def gLoop (f : D → Env → Option Env) (gb : GS) : List D → Env → Option Out
  | [], c => some (.nx c)
  | d :: ds, c => match f d c with
    | none => none
    | some c1 => match gb c1 with
      | some (.nx c2) => gLoop f gb ds c2
      | some (.ct c2) => gLoop f gb ds c2
      | some (.bk c2) => some (.nx c2)
      | r => r
def gFor (gi : GA) (f : D → Env → Option Env) (gb : GS) : GS := fun c => match gi c with
  | some ds => gLoop f gb ds c
  | none => none
theorem vs_for {wi : TI} {gi : GA} {tg : TG} {js : List Nat} {f : D → Env → Option Env} {tb : TS} {gb : GS} (hi : VI K W0 wi gi) (hg : VG K W0 tg js f) (hb : VS K W0 E tb gb) : VS K W0 E (tFor wi tg tb) (gFor gi f gb) := by
  intro W σ c D k u s q
  unfold gFor at q
  cases e : gi c with
  | none => rw [e] at q; exact q.elim
  | some ds =>
    simp only [e] at q
    refine hi W σ c ds _ k u s e fun W1 J k1 g1 y1 => ?_
    refine ⟨fun i m σ H => m = ds.length - i ∧ i ≤ ds.length ∧ ∃ Wx cx, Wx.H = H ∧ WOk Wx ∧ Up W0 Wx ∧ Same W1.F Wx.F ∧ SD K W0 Wx σ cx ∧ Post K E W0 W1.F D (gLoop f gb (ds.drop i) cx), ?_, ?_⟩
    · exact ⟨_, rfl, Nat.zero_le _, W1, c, rfl, k1, u.gr g1, Same.refl _, s.gr g1, by rw [List.drop_zero]; exact q.mono g1.f⟩
    · rintro i m σx H ⟨rfl, him, Wx, cx, rfl, kx, ux, fx, sx, px⟩
      by_cases hlt : i < ds.length
      · right
        have hd : ds[i]? = some ds[i] := List.getElem?_eq_getElem hlt
        obtain ⟨go, yl⟩ := (y1 Wx i kx fx).2 _ hd
        refine ⟨go, fun σ' H' => ∃ Wy cy, Wy.H = H' ∧ WOk Wy ∧ Up W0 Wy ∧ Same W1.F Wy.F ∧ SD K W0 Wy σ' cy ∧ Post K E W0 W1.F D (gLoop f gb (ds.drop (i + 1)) cy), fun σ' H' h => ⟨ds.length - (i + 1), by omega, rfl, hlt, h⟩, fun x H' hy => ?_⟩
        obtain ⟨W2, k2, g2, rfl, d2⟩ := yl x H' hy
        rw [List.drop_eq_getElem_cons hlt] at px
        unfold gLoop at px
        cases e1 : f ds[i] cx with
        | none => simp only [e1] at px; exact px.elim
        | some c1 =>
          simp only [e1] at px
          refine hg W2 σx cx c1 x _ _ k2 (sx.gr g2) d2 e1 fun σ' s' _ _ => ?_
          refine hb W2 σ' c1 _ k2 (ux.gr g2) s' ?_
          have f2 : Same W1.F W2.F := fx.trans g2.f
          cases e2 : gb c1 with
          | none => rw [e2] at px; exact px.elim
          | some o =>
            rw [e2] at px
            cases o with
            | nx c2 => exact fun W3 σ3 k3 u3 f3 s3 => ⟨W3, c2, rfl, k3, u3, f2.trans f3, s3, px⟩
            | ct c2 => exact fun W3 σ3 k3 u3 f3 s3 => ⟨W3, c2, rfl, k3, u3, f2.trans f3, s3, px⟩
            | bk c2 => exact fun W3 σ3 k3 u3 f3 s3 => px W3 σ3 k3 u3 (f2.trans f3) s3
            | ret d => exact fun W3 v k3 u3 f3 d3 => px W3 v k3 u3 (f2.trans f3) d3
            | ex C ns es => exact fun W3 dx fs k3 u3 f3 => px W3 dx fs k3 u3 (f2.trans f3)
      · left
        have hi : i = ds.length := by omega
        subst hi
        rw [List.drop_length] at px
        exact ⟨(y1 Wx _ kx fx).1 (Nat.le_refl _), px Wx σx kx ux fx sx⟩
theorem yields_list {F : Hp} {a : Addr} {xs : List V} {ds : List D} (h : SqL K F a xs) (hd : DenL K F xs ds) : Yields K F (Itl K a) ds := by
  intro W i k f
  have hq : SqL K W.H a xs := (k.fh).seq (f.seq h)
  have inj : ∀ ys, SqL K W.H a ys → True := fun _ _ => trivial
  refine ⟨fun hi => ⟨xs, hq, by rw [hd.length]; exact hi⟩, fun d e => ?_⟩
  obtain ⟨v, hv, dv⟩ := hd.get e
  refine ⟨⟨xs, v, hq, hv⟩, fun x H' y => ⟨W, k, Gr.refl W, y.1.symm, ?_⟩⟩
  have := y.2 xs hq
  rw [hv] at this; cases this
  exact dv.up f
theorem yields_tup {F : Hp} {a : Addr} {xs : List V} {ds : List D} (h : SqT K F a xs) (hd : DenL K F xs ds) : Yields K F (Itt K a) ds := by
  intro W i k f
  have hq : SqT K W.H a xs := sqT_same k.fh (sqT_same f h)
  refine ⟨fun hi => ⟨xs, hq, by rw [hd.length]; exact hi⟩, fun d e => ?_⟩
  obtain ⟨v, hv, dv⟩ := hd.get e
  refine ⟨⟨xs, v, hq, hv⟩, fun x H' y => ⟨W, k, Gr.refl W, y.1.symm, ?_⟩⟩
  have := y.2 xs hq
  rw [hv] at this; cases this
  exact dv.up f
/-- a list or a tuple is walked -/
def iSeq (K : PySem.W.Frag) (tl : TE) : TI := fun σ H R => tl σ H fun x H1 => ∃ a, x = .ref a ∧ ((∃ xs, SqL K H1 a xs ∧ R (Itl K a) H1) ∨ (∃ xs, SqT K H1 a xs ∧ R (Itt K a) H1))
theorem pi_seq {X : Cx} {tg l : Expr} {tl : TE} (hl : PE X l tl) : PI X tg l (iSeq X.K tl) := by
  refine ⟨fun pins s σ H R I h => ?_⟩
  refine thn (hl.run pins s σ H _ I h) fun v s1 ⟨x, H1, I1, r1, q1⟩ => ?_
  obtain ⟨a, e, q1⟩ := q1
  subst e
  cases r1
  rcases q1 with ⟨xs, hq, q⟩ | ⟨xs, hq, q⟩
  · obtain ⟨its, rv, p, hz⟩ := I1.list hq
    refine wpAny_pyIter_list p.isList ?_
    refine ⟨s1.heap.objs.size, [s1.heap.objs.size], _, _, H1, rfl, I1.kept (t' := s1.toks) fun b o e => Heap.get?_push_of_some _ e, turn_list a _, ⟨_, Heap.get?_push_size _ rfl, rfl, rfl⟩, fun b hb => ?_, q⟩
    have e : b = s1.heap.objs.size := by simpa using hb
    subst e
    exact I1.fpOk (Nat.le_refl _) (I1.hok.fresh (Nat.le_refl _))
  · obtain ⟨its, rv, p, hz⟩ := I1.tuple hq
    have p2 : s1.heap.IsTuple a its.toArray := p
    refine wpAny_pyIter_tuple p2 ?_
    refine ⟨s1.heap.objs.size, [s1.heap.objs.size], _, _, H1, rfl, I1.kept (t' := s1.toks) fun b o e => Heap.get?_push_of_some _ e, turn_tuple a _, ⟨_, Heap.get?_push_size _ rfl, rfl, rfl⟩, fun b hb => ?_, q⟩
    have e : b = s1.heap.objs.size := by simpa using hb
    subst e
    exact I1.fpOk (Nat.le_refl _) (I1.hok.fresh (Nat.le_refl _))
theorem vi_seq {te : TE} {g : GE} (h : VT K W0 true te g) : VI K W0 (iSeq K te) (gItems g) := by
  intro W σ c ds R k u s e q
  unfold gItems at e
  split at e
  · rename_i d hd
    refine h W σ c d _ k u s hd fun W1 v k1 g1 d1 => ?_
    cases d with
    | lst es =>
      cases e
      cases d1 with
      | lst h1 h2 => exact ⟨_, rfl, .inl ⟨_, SqL.of (k1.fh _ _ h1), q W1 _ k1 g1 (yields_list (SqL.of h1) h2)⟩⟩
    | scr es =>
      cases e
      cases d1 with
      | scr h1 h2 => exact ⟨_, rfl, .inl ⟨_, k1.fh.seq h1, q W1 _ k1 g1 (yields_list h1 h2)⟩⟩
    | tup es =>
      cases e
      cases d1 with
      | tup h1 h2 => exact ⟨_, rfl, .inr ⟨_, sqT_same k1.fh h1, q W1 _ k1 g1 (yields_tup h1 h2)⟩⟩
    | _ => cases e
  · cases e
def rgD (a : Int) (n : Nat) : List D := (List.range n).map fun i => .int (a + (i : Nat))
theorem rgD_len (a : Int) (n : Nat) : (rgD a n).length = n := by simp [rgD]
theorem rgD_get {a : Int} {n i : Nat} {d : D} (h : (rgD a n)[i]? = some d) : i < n ∧ d = .int (a + (i : Nat)) := by
  have hi : i < n := by have := (List.getElem?_eq_some_iff.mp h).1; rwa [rgD_len] at this
  refine ⟨hi, ?_⟩
  unfold rgD at h
  rw [List.getElem?_map, List.getElem?_range hi] at h
  exact (Option.some.inj h).symm
theorem yields_range {F : Hp} {a : Int} {n : Nat} : Yields K F (Itr a n) (rgD a n) := by
  intro W i k f
  refine ⟨fun hi => by rw [rgD_len] at hi; exact hi, fun d e => ?_⟩
  obtain ⟨hi, rfl⟩ := rgD_get e
  exact ⟨hi, fun x H' y => ⟨W, k, Gr.refl W, y.1.symm, by rw [y.2]; exact .int _⟩⟩
def gRg1 (gs : GA) : GA := fun c => match gs c with
  | some [.int j] => if -(2 ^ 62) ≤ j ∧ j < 2 ^ 62 then some (rgD 0 j.toNat) else none
  | _ => none
def gRg2 (gs : GA) : GA := fun c => match gs c with
  | some [.int i, .int j] => if -(2 ^ 62) ≤ i ∧ i < 2 ^ 62 ∧ -(2 ^ 62) ≤ j ∧ j < 2 ^ 62 then some (rgD i (j - i).toNat) else none
  | _ => none
theorem vi_rg1 {b : Bool} {ts : TA} {gs : GA} (h : VArg K W0 b ts gs) : VI K W0 (iRng1 ts) (gRg1 gs) := by
  intro W σ c ds R k u s e q
  unfold gRg1 at e
  split at e
  · rename_i j hj
    split at e
    · rename_i hz
      cases e
      refine h W σ c _ _ k u s hj fun W1 vs k1 g1 d1 => ?_
      cases d1 with
      | cons h1 h2 => cases h1; cases h2; exact ⟨j, rfl, hz.1, hz.2, q W1 _ k1 g1 yields_range⟩
    · cases e
  · cases e
theorem vi_rg2 {b : Bool} {ts : TA} {gs : GA} (h : VArg K W0 b ts gs) : VI K W0 (iRng2 ts) (gRg2 gs) := by
  intro W σ c ds R k u s e q
  unfold gRg2 at e
  split at e
  · rename_i i j hj
    split at e
    · rename_i hz
      cases e
      refine h W σ c _ _ k u s hj fun W1 vs k1 g1 d1 => ?_
      cases d1 with
      | cons h1 h2 =>
        cases h2 with
        | cons h2 h3 => cases h1; cases h2; cases h3; exact ⟨i, j, rfl, hz, q W1 _ k1 g1 yields_range⟩
    · cases e
  · cases e
/-! a text's signs -/
def gSigns (g : GE) : GA := fun c => match g c with
  | some (.str x) => some (x.cps.toList.map fun n => .str ⟨#[n]⟩)
  | _ => none
theorem vi_str {b : Bool} {te : TE} {g : GE} (h : VT K W0 b te g) : VI K W0 (iStr te) (gSigns g) := by
  intro W σ c ds R k u s e q
  unfold gSigns at e
  split at e
  · rename_i x hx
    cases e
    refine h W σ c _ _ k u s hx fun W1 v k1 g1 d1 => ?_
    cases d1
    refine ⟨x, rfl, q W1 _ k1 g1 fun W2 i k2 f2 => ?_⟩
    refine ⟨fun hi => ?_, fun d hd => ?_⟩
    · simp only [List.length_map, Array.length_toList] at hi
      exact hi
    · rw [List.getElem?_map] at hd
      simp only [Option.map_eq_some_iff] at hd
      obtain ⟨n, h1, h2⟩ := hd
      subst h2
      have hn : x.cps[i]? = some n := by simpa using h1
      refine ⟨?_, fun y H' hy => ⟨W2, k2, Gr.refl W2, ?_, ?_⟩⟩
      · exact (Array.getElem?_eq_some_iff.mp hn).1
      · exact hy.1.symm
      · obtain ⟨_, m, e1, e2⟩ := hy
        rw [hn] at e1
        cases e1
        rw [e2]
        exact .str _
  · cases e
/-! while, with fuel -/
def gWl (p : GB) (gb : GS) : Nat → Env → Option Out
  | 0, _ => none
  | n + 1, c => match p c with
    | none => none
    | some false => some (.nx c)
    | some true => match gb c with
      | some (.nx c2) => gWl p gb n c2
      | some (.ct c2) => gWl p gb n c2
      | some (.bk c2) => some (.nx c2)
      | r => r
def gWhile (fuel : Env → Nat) (p : GB) (gb : GS) : GS := fun c => gWl p gb (fuel c) c
theorem vs_while (fuel : Env → Nat) {tt : TT} {p : GB} {tb : TS} {gb : GS} (hp : VB K W0 tt p) (hb : VS K W0 E tb gb) : VS K W0 E (tWhile tt tb) (gWhile fuel p gb) := by
  intro W σ c D k u s q
  refine ⟨fun m σ H => ∃ Wx cx, Wx.H = H ∧ WOk Wx ∧ Up W0 Wx ∧ Same W.F Wx.F ∧ SD K W0 Wx σ cx ∧ Post K E W0 W.F D (gWl p gb m cx), ⟨fuel c, W, c, rfl, k, u, Same.refl _, s, q⟩, ?_⟩
  rintro m σx H ⟨Wx, cx, rfl, kx, ux, fx, sx, px⟩
  cases m with
  | zero => exact px.elim
  | succ n =>
    unfold gWl at px
    cases e : p cx with
    | none => rw [e] at px; exact px.elim
    | some b =>
      rw [e] at px
      refine hp Wx σx cx b _ kx ux sx e fun W2 k2 g2 => ?_
      cases b with
      | false => rw [if_neg Bool.false_ne_true]; exact px W2 σx k2 (ux.gr g2) (fx.trans g2.f) (sx.gr g2)
      | true =>
        rw [if_pos rfl]
        refine ⟨fun σ' H' => ∃ Wy cy, Wy.H = H' ∧ WOk Wy ∧ Up W0 Wy ∧ Same W.F Wy.F ∧ SD K W0 Wy σ' cy ∧ Post K E W0 W.F D (gWl p gb n cy), fun σ' H' h => ⟨n, Nat.lt_succ_self n, h⟩, ?_⟩
        refine hb W2 σx cx _ k2 (ux.gr g2) (sx.gr g2) ?_
        have f2 : Same W.F W2.F := fx.trans g2.f
        cases e2 : gb cx with
        | none => rw [e2] at px; exact px.elim
        | some o =>
          rw [e2] at px
          cases o with
          | nx c2 => exact fun W3 σ3 k3 u3 f3 s3 => ⟨W3, c2, rfl, k3, u3, f2.trans f3, s3, px⟩
          | ct c2 => exact fun W3 σ3 k3 u3 f3 s3 => ⟨W3, c2, rfl, k3, u3, f2.trans f3, s3, px⟩
          | bk c2 => exact fun W3 σ3 k3 u3 f3 s3 => px W3 σ3 k3 u3 (f2.trans f3) s3
          | ret d => exact fun W3 v k3 u3 f3 d3 => px W3 v k3 u3 (f2.trans f3) d3
          | ex C ns es => exact fun W3 dx fs k3 u3 f3 => px W3 dx fs k3 u3 (f2.trans f3)
end
end VL
end

section
/-! VD: comprehensions, defs and calls by data. -/
namespace VL
open PySem PySem.Spec PyProof.Rows L2
section
variable {K : PySem.W.Frag} {E : XK}

/-! ### a list comprehension -/
def wipeC (c : Env) : List Nat → Env
  | [] => c
  | v :: vs => (wipeC c vs).set v none
theorem wipeC_len (c : Env) : ∀ vs, (wipeC c vs).length = c.length
  | [] => rfl
  | v :: vs => by unfold wipeC; rw [List.length_set, wipeC_len c vs]
theorem sd_wipe {W0 W : Wd} {σ : L2.St} {c : Env} (s : SD K W0 W σ c) : ∀ vs : List Nat, SD K W0 W (wipe σ vs) (wipeC c vs)
  | [] => s
  | v :: vs => by
    unfold wipe wipeC
    exact sd_set (sd_wipe s vs) v none none trivial fun l h => (noHold_none h).elim
theorem wipe_eq {σ τ : L2.St} (hl : σ.length = τ.length) : ∀ {vs : List Nat}, (∀ k, k ∉ vs → σ[k]? = τ[k]?) → wipe σ vs = wipe τ vs := by
  intro vs h
  apply List.ext_getElem?
  intro i
  have key : ∀ (ρ : L2.St) (vs : List Nat), (wipe ρ vs)[i]? = if i ∈ vs then (if i < ρ.length then some none else none) else ρ[i]? := by
    intro ρ vs
    induction vs with
    | nil => simp [wipe]
    | cons v vs ih =>
      unfold wipe
      by_cases hv : v = i
      · subst hv
        rw [List.getElem?_set_self']
        rw [ih]
        by_cases hm : v ∈ vs
        · rw [if_pos hm, if_pos (List.mem_cons_self ..)]
          split <;> rfl
        · rw [if_neg hm, if_pos (List.mem_cons_self ..)]
          by_cases hi : v < ρ.length
          · rw [List.getElem?_eq_getElem hi, if_pos hi]; rfl
          · rw [List.getElem?_eq_none (by omega), if_neg hi]; rfl
      · rw [List.getElem?_set_ne hv, ih]
        have : i ∈ v :: vs ↔ i ∈ vs := by simp [Ne.symm hv]
        by_cases hm : i ∈ vs
        · rw [if_pos hm, if_pos (this.mpr hm)]
        · rw [if_neg hm, if_neg (fun z => hm (this.mp z))]
  rw [key σ vs, key τ vs, hl]
  by_cases hm : i ∈ vs
  · rw [if_pos hm, if_pos hm]
  · rw [if_neg hm, if_neg hm]; exact h i hm
theorem wipe_wipe (σ : L2.St) (vs : List Nat) : wipe (wipe σ vs) vs = wipe σ vs := by
  apply List.ext_getElem?
  intro i
  have key : ∀ (ρ : L2.St) (ws : List Nat), i ∈ ws → (wipe ρ ws)[i]? = (if i < ρ.length then some none else none) := by
    intro ρ ws
    induction ws with
    | nil => intro h; cases h
    | cons v vs ih =>
      intro hm
      unfold wipe
      by_cases hv : v = i
      · subst hv
        by_cases hi : v < ρ.length
        · rw [List.getElem?_set_self (by rw [wipe_length]; exact hi), if_pos hi]
        · rw [List.getElem?_eq_none (by rw [List.length_set, wipe_length]; omega), if_neg hi]
      · rw [List.getElem?_set_ne hv]
        rcases List.mem_cons.mp hm with z | z
        · exact absurd z.symm hv
        · exact ih z
  have key2 : ∀ (ρ : L2.St) (ws : List Nat), i ∉ ws → (wipe ρ ws)[i]? = ρ[i]? := by
    intro ρ ws
    induction ws with
    | nil => intro _; rfl
    | cons v vs ih =>
      intro hm
      unfold wipe
      rw [List.getElem?_set_ne (fun z => hm (by rw [z]; exact List.mem_cons_self ..))]
      exact ih fun z => hm (List.mem_cons_of_mem _ z)
  by_cases hm : i ∈ vs
  · rw [key _ _ hm, key _ _ hm, wipe_length]
  · rw [key2 _ _ hm]
def gLcL (f : D → Env → Option Env) (p : GB) (g : GE) (c : Env) : List D → Option (List D)
  | [] => some []
  | d :: ds => match f d c with
    | none => none
    | some c1 => match p c1 with
      | none => none
      | some false => gLcL f p g c ds
      | some true => match g c1 with
        | none => none
        | some y => match gLcL f p g c ds with
          | some ys => some (y :: ys)
          | none => none
def gLc (gi : GA) (f : D → Env → Option Env) (p : GB) (g : GE) (vs : List Nat) : GA := fun c => match gi c with
  | some ds => if ds.length ≤ sizeLine then gLcL f p g (wipeC c vs) ds else none
  | none => none
def gYes : GB := fun _ => some true
theorem vb_yes : VB K W0 tYes gYes := fun W σ c d Q k u s e q => by cases e; exact q W k (Gr.refl W)
theorem gLcL_len {f : D → Env → Option Env} {p : GB} {g : GE} {c : Env} : ∀ {ds ys : List D}, gLcL f p g c ds = some ys → ys.length ≤ ds.length
  | [], ys, h => by cases h; exact Nat.le_refl _
  | d :: ds, ys, h => by
    unfold gLcL at h
    split at h
    · cases h
    · split at h
      · cases h
      · have := gLcL_len h
        simp; omega
      · split at h
        · cases h
        · split at h
          · rename_i zs hz
            cases h
            have := gLcL_len hz
            simp; omega
          · cases h
theorem vn_lc {wi : TI} {gi : GA} {tg : TG} {vs js : List Nat} {f : D → Env → Option Env} {tt : TT} {p : GB} {te : TE} {g : GE}
    (hi : VI K W0 wi gi) (hg : VG K W0 tg js f) (hj : ∀ j ∈ js, j ∈ vs) (hp : VB K W0 tt p) (he : VT K W0 true te g) : VN K W0 (tLc wi tg tt te vs) (gLc gi f p g vs) := by
  intro W σ c ys Q k u s e q
  unfold gLc at e
  split at e
  · rename_i ds hds
    split at e
    · rename_i hz
      refine hi W σ c ds _ k u s hds fun W1 J k1 g1 y1 => fun Dd hD => ?_
      have s1 := sd_wipe (s.gr g1) vs
      refine ⟨fun i m H => m = ds.length - i ∧ i ≤ ds.length ∧ ∃ Wx accV accD rest, Wx.H = H ∧ WOk Wx ∧ Gr W1 ⟨fun a => if a = Dd then none else Wx.H a, Wx.G, Wx.F⟩ ∧ Wx.H Dd = some (.lst accV) ∧ Wx.G Dd = none ∧ Wx.F Dd = none ∧ SD K W0 Wx (wipe σ vs) (wipeC c vs) ∧ Up W0 Wx ∧
        accD.length ≤ i ∧ DenL K Wx.F accV accD ∧ gLcL f p g (wipeC c vs) (ds.drop i) = some rest ∧ ys = accD ++ rest, ?_, ?_⟩
      · refine ⟨_, rfl, Nat.zero_le _, ⟨upd W1.H Dd (.lst []), W1.G, W1.F⟩, [], [], ys, rfl, ⟨k1.fg, k1.gh.trans (same_upd hD), k1.gt⟩, ⟨fun a o h => ?_, Same.refl _, Same.refl _, fun _ _ _ => rfl, fun _ _ _ => rfl⟩, upd_same, k1.nG hD, k1.nF hD, ?_, ?_, Nat.le_refl _, .nil, by rw [List.drop_zero]; exact e, rfl⟩
        · show (if a = Dd then none else upd W1.H Dd _ a) = some o
          have ne : a ≠ Dd := ne_of_none h hD
          rw [if_neg ne, upd_ne ne]; exact h
        · exact s1.gr ⟨same_upd hD, Same.refl _, Same.refl _, fun _ _ _ => rfl, fun _ _ _ => rfl⟩
        · exact (u.gr g1).gr ⟨same_upd hD, Same.refl _, Same.refl _, fun _ _ _ => rfl, fun _ _ _ => rfl⟩
      · rintro i m H ⟨rfl, him, Wx, accV, accD, rest, rfl, kx, gx, hDx, gDx, fDx, sx, ux, hlen, hacc, hrest, hys⟩
        have fx : Same W1.F Wx.F := gx.f
        by_cases hlt : i < ds.length
        · right
          have hd : ds[i]? = some ds[i] := List.getElem?_eq_getElem hlt
          obtain ⟨go, yl⟩ := (y1 Wx i kx fx).2 _ hd
          rw [List.drop_eq_getElem_cons hlt] at hrest
          refine ⟨go, fun H' => ∃ Wy accV accD rest, Wy.H = H' ∧ WOk Wy ∧ Gr W1 ⟨fun a => if a = Dd then none else Wy.H a, Wy.G, Wy.F⟩ ∧ Wy.H Dd = some (.lst accV) ∧ Wy.G Dd = none ∧ Wy.F Dd = none ∧ SD K W0 Wy (wipe σ vs) (wipeC c vs) ∧ Up W0 Wy ∧
            accD.length ≤ i + 1 ∧ DenL K Wy.F accV accD ∧ gLcL f p g (wipeC c vs) (ds.drop (i + 1)) = some rest ∧ ys = accD ++ rest, fun H' h => ⟨ds.length - (i + 1), by omega, rfl, hlt, h⟩, fun x H' hy => ?_⟩
          obtain ⟨W2, k2, g2, rfl, d2⟩ := yl x H' hy
          have step : ∀ {Wa Wb : Wd}, Gr Wa Wb → Wa.H Dd = some (.lst accV) → Wa.G Dd = none → Wa.F Dd = none → Gr W1 ⟨fun a => if a = Dd then none else Wa.H a, Wa.G, Wa.F⟩ →
              Wb.H Dd = some (.lst accV) ∧ Wb.G Dd = none ∧ Wb.F Dd = none ∧ Gr W1 ⟨fun a => if a = Dd then none else Wb.H a, Wb.G, Wb.F⟩ := by
            intro Wa Wb gab h1 h2 h3 h4
            refine ⟨gab.h _ _ h1, (gab.go _ _ h1).trans h2, (gab.fo _ _ h1).trans h3, ⟨fun a o h => ?_, h4.g.trans gab.g, h4.f.trans gab.f, fun a o h => ?_, fun a o h => ?_⟩⟩
            · have z := h4.h a o h
              have z' : (if a = Dd then none else Wa.H a) = some o := z
              split at z'
              · cases z'
              · rename_i ne
                show (if a = Dd then none else Wb.H a) = some o
                rw [if_neg ne]; exact gab.h _ _ z'
            · have z : (if a = Dd then none else Wa.H a) = some o := h4.h a o h
              split at z
              · cases z
              · exact (gab.go _ _ z).trans (h4.go a o h)
            · have z : (if a = Dd then none else Wa.H a) = some o := h4.h a o h
              split at z
              · cases z
              · exact (gab.fo _ _ z).trans (h4.fo a o h)
          obtain ⟨hD2, gD2, fD2, gr2⟩ := step g2 hDx gDx fDx gx
          unfold gLcL at hrest
          cases e1 : f ds[i] (wipeC c vs) with
          | none => rw [e1] at hrest; cases hrest
          | some c1 =>
            simp only [e1] at hrest
            refine hg W2 _ _ c1 x _ _ k2 (sx.gr g2) d2 e1 fun σ' s' l' a' => ⟨?_, ?_⟩
            · rw [← wipe_wipe σ vs]
              exact wipe_eq l' fun j' hj' => a' j' fun z => hj' (hj j' z)
            cases e2 : p c1 with
            | none => rw [e2] at hrest; cases hrest
            | some b =>
              simp only [e2] at hrest
              refine hp W2 σ' c1 b _ k2 (ux.gr g2) s' e2 fun W3 k3 g3 => ?_
              obtain ⟨hD3, gD3, fD3, gr3⟩ := step g3 hD2 gD2 fD2 gr2
              cases b with
              | false =>
                rw [if_neg Bool.false_ne_true]
                exact ⟨W3, accV, accD, rest, rfl, k3, gr3, hD3, gD3, fD3, (sx.gr g2).gr g3, (ux.gr g2).gr g3, by omega, (hacc.up g2.f).up g3.f, hrest, hys⟩
              | true =>
                rw [if_pos rfl]
                cases e3 : g c1 with
                | none => simp only [e3] at hrest; cases hrest
                | some y =>
                  simp only [e3] at hrest
                  refine he W3 σ' c1 y _ k3 ((ux.gr g2).gr g3) (s'.gr g3) e3 fun W4 v k4 g4 d4 => ?_
                  obtain ⟨hD4, gD4, fD4, gr4⟩ := step g4 hD3 gD3 fD3 gr3
                  have hacc4 := ((hacc.up g2.f).up g3.f).up g4.f
                  cases e4 : gLcL f p g (wipeC c vs) (ds.drop (i + 1)) with
                  | none => simp only [e4] at hrest; cases hrest
                  | some r2 =>
                    simp only [e4] at hrest
                    cases hrest
                    have ne4 : ∀ a o, W4.G a = some o → a ≠ Dd := fun a o h z => by rw [z, gD4] at h; cases h
                    refine ⟨accV, hD4, by rw [hacc4.length]; omega, ⟨upd W4.H Dd (.lst (accV ++ [v])), W4.G, W4.F⟩, accV ++ [v], accD ++ [y], r2, rfl, ⟨k4.fg, fun a o h => ?_, k4.gt⟩, ?_, upd_same, gD4, fD4, ?_, ?_, by simp; omega, hacc4.append (.cons d4 .nil), rfl, by rw [hys]; simp⟩
                    · show upd W4.H Dd _ a = some o
                      rw [upd_ne (ne4 a o h)]; exact k4.gh a o h
                    · refine ⟨fun a o h => ?_, gr4.g, gr4.f, gr4.go, gr4.fo⟩
                      have z : (if a = Dd then none else W4.H a) = some o := gr4.h a o h
                      show (if a = Dd then none else upd W4.H Dd _ a) = some o
                      split at z
                      · cases z
                      · rename_i ne; rw [if_neg ne, upd_ne ne]; exact z
                    · have sx4 := ((sx.gr g2).gr g3).gr g4
                      have nW0 : W0.H Dd = none := (u.gr g1).h.free hD
                      refine ⟨sx4.len, fun j z w h1 h2 => ?_, sx4.one⟩
                      have okc := sx4.ok j z w h1 h2
                      have nh : ∀ l, Holds z w l → l ≠ Dd := fun l hh zz => by
                        obtain ⟨o, ho⟩ := hold_there s1 h1 h2 hh
                        rw [zz, hD] at ho; cases ho
                      cases w with
                      | none => trivial
                      | some cl =>
                        cases cl with
                        | fz d => exact okc
                        | own es =>
                          obtain ⟨l2, us, a1, a2, a3, a4, a5, a6⟩ := okc
                          exact ⟨l2, us, a1, (upd_ne (nh l2 ⟨a1, rfl⟩)).trans a2, a3, a4, a5, a6⟩
                        | exc C ns es =>
                          obtain ⟨us, a1, a2, a3, a4⟩ := okc
                          refine ⟨us, a1, (upd_ne ?_).trans a2, a3, a4⟩
                          exact ne_of a2 hD4 (by intro z; cases z)
                        | slf C ns es =>
                          obtain ⟨us, a1, a2, a3, a4, a5, a6, a7⟩ := okc
                          exact ⟨us, a1, (upd_ne (nh _ ⟨a1, rfl⟩)).trans a2, a3, a4, a5, a6, a7⟩
                    · have ux4 := ((ux.gr g2).gr g3).gr g4
                      have nW0 : W0.H Dd = none := (u.gr g1).h.free hD
                      refine ⟨fun a o h => ?_, ux4.f, ux4.fo⟩
                      show upd W4.H Dd _ a = some o
                      rw [upd_ne (ne_of_none h nW0)]; exact ux4.h a o h
        · left
          have hi' : i = ds.length := by omega
          subst hi'
          rw [List.drop_length] at hrest
          cases hrest
          rw [List.append_nil] at hys
          subst hys
          refine ⟨(y1 Wx _ kx fx).1 (Nat.le_refl _), ?_⟩
          have e5 : Wx.H = upd (fun a => if a = Dd then none else Wx.H a) Dd (.lst accV) := by
            funext a
            unfold upd
            by_cases ha : a = Dd
            · rw [if_pos ha, ha]; exact hDx
            · rw [if_neg ha]; exact (if_neg ha).symm
          rw [e5]
          refine q ⟨fun a => if a = Dd then none else Wx.H a, Wx.G, Wx.F⟩ Dd accV ⟨kx.fg, fun a o h => ?_, kx.gt⟩ (g1.trans gx) (if_pos rfl) hacc
          show (if a = Dd then none else Wx.H a) = some o
          rw [if_neg (fun z => by rw [z, gDx] at h; cases h)]
          exact kx.gh a o h
    · cases e
  · cases e

/-! ### defs -/
inductive Res where
  | val (d : D)
  | exn (C : Addr) (ns : List Str) (ds : List D)
/-- what a def promises: m of its arguments -/
def spP (K : PySem.W.Frag) (m : List D → Option Res) : Sp := fun vs H Q E => ∃ (F : Hp) (ds : List D) (r : Res), Same F H ∧ DenL K F vs ds ∧ m ds = some r ∧
  match r with
  | .val d => ∀ H' F' v, Same H H' → Same F F' → Same F' H' → (∀ a o, H a = some o → F' a = F a) → Den K F' v d → Q v H'
  | .exn C ns es => ∀ H' F' dx fs, Same H H' → Same F F' → Same F' H' → (∀ a o, H a = some o → F' a = F a) → H dx = none → H' dx = some (.xd fs) → fs.map (·.1) = ns → DenL K F' (fs.map (·.2)) es → E (.ref C) (some dx) H'
/-- the def of n parameters and nn names whose body does g -/
def outRes : Option Out → Option Res
  | some (.nx _) => some (.val .non)
  | some (.ret d) => some (.val d)
  | some (.ex C ns ds) => some (.exn C ns ds)
  | _ => none
def envOf (nn : Nat) (ds : List D) : Env := ds.map (fun d => some (.fz d)) ++ List.replicate (nn - ds.length) none
def mOf (n nn : Nat) (g : GS) : List D → Option Res := fun ds => if ds.length = n then outRes (g (envOf nn ds)) else none
theorem mOf_len {n nn : Nat} {g : GS} {ds : List D} {r : Res} (h : mOf n nn g ds = some r) : ds.length = n ∧ outRes (g (envOf nn ds)) = some r := by
  unfold mOf at h
  split at h
  · exact ⟨by assumption, h⟩
  · cases h
theorem spP_len {m : List D → Option Res} {n : Nat} (hm : ∀ ds r, m ds = some r → ds.length = n) : ∀ vs H Q E, spP K m vs H Q E → vs.length = n := by
  rintro vs H Q E' ⟨F, ds, r, hF, hd, e, _⟩
  rw [hd.length]
  exact hm ds r e
theorem sd_start {W : Wd} {N : List Str} {vs : List V} {ds : List D} {W0 : Wd} (h : DenL K W.F vs ds) : SD K W0 W (L2.start N vs) (envOf N.length ds) := by
  have hl := h.length
  refine ⟨by simp [L2.start, envOf, hl], fun i x y h1 h2 => ?_, fun i j x y z w l h1 h2 h3 h4 h5 h6 => ?_⟩
  · by_cases hi : i < ds.length
    · have e1 : (envOf N.length ds)[i]? = some (some (.fz ds[i])) := by
        unfold envOf
        rw [List.getElem?_append_left (by simpa using hi)]
        simp [hi]
      have e2 : (L2.start N vs)[i]? = some (some vs[i]) := by
        unfold L2.start
        rw [List.getElem?_append_left (by simpa [hl] using hi)]
        simp [hl, hi]
      rw [e1] at h2; cases h2
      rw [e2] at h1; cases h1
      obtain ⟨v, hv, dv⟩ := h.get (List.getElem?_eq_getElem hi)
      have : vs[i]? = some vs[i] := List.getElem?_eq_getElem (by omega)
      rw [this] at hv; cases hv
      exact ⟨_, rfl, dv⟩
    · have : y = none := by
        unfold envOf at h2
        rw [List.getElem?_append_right (by simpa using Nat.le_of_not_lt hi)] at h2
        rw [List.getElem?_replicate] at h2
        split at h2
        · exact (Option.some.inj h2).symm
        · cases h2
      subst this
      trivial
  · have nh : ∀ (i : Nat) y x, (envOf N.length ds)[i]? = some y → Holds x y l → False := by
      intro i y x h2 h5
      by_cases hi : i < ds.length
      · have e1 : (envOf N.length ds)[i]? = some (some (.fz ds[i])) := by
          unfold envOf
          rw [List.getElem?_append_left (by simpa using hi)]
          simp [hi]
        rw [e1] at h2; cases h2
        exact noHold_fz h5
      · unfold envOf at h2
        rw [List.getElem?_append_right (by simpa using Nat.le_of_not_lt hi)] at h2
        rw [List.getElem?_replicate] at h2
        split at h2
        · cases h2; exact noHold_none h5
        · cases h2
    exact (nh i y x h2 h5).elim
/-- THE RULE for a def's body -/
theorem run_def {N : List Str} {n nn : Nat} {ts : TS} {g : GS} {vs : List V} {H : Hp} {Q : VK} (hN : N.length = nn) (hv : ∀ W0, VS K W0 E ts g) (h : spP K (mOf n nn g) vs H Q E) : ts { nx := fun _ H' => Q .non H', rt := Q } (L2.start N vs) H := by
  obtain ⟨F, ds, r, hF, hd, e, q⟩ := h
  obtain ⟨hl, e⟩ := mOf_len e
  subst hN
  refine hv ⟨H, F, F⟩ ⟨H, F, F⟩ (L2.start N vs) (envOf N.length ds) _ ⟨Same.refl _, hF, fun _ _ e _ => e⟩ ⟨Same.refl _, Same.refl _, fun _ _ _ => rfl⟩ (sd_start hd) ?_
  cases eg : g (envOf N.length ds) with
  | none => rw [eg] at e; cases e
  | some o =>
    rw [eg] at e
    cases o with
    | nx c => cases e; exact fun W σ k u f s => q W.H W.F .non u.h u.f k.fh u.fo .non
    | ret d => cases e; exact fun W v k u f hd => q W.H W.F v u.h u.f k.fh u.fo hd
    | bk c => cases e
    | ct c => cases e
    | ex C ns es => cases e; exact fun W dx fs k u f h1 h2 h3 h4 => q W.H W.F dx fs u.h u.f k.fh u.fo h2 h1 h3 h4
/-- behind a call: the callee's settled heap F' -/
def Wd.aft (W : Wd) (b : Bool) (H' F' : Hp) : Wd := ⟨H', fun a => match W.H a with
  | some _ => W.G a
  | none => F' a, fun a => match W.H a with
  | some _ => W.F a
  | none => F' a⟩
theorem aft_ok {W : Wd} (k : WOk W) {b : Bool} {H' F' : Hp} (h : Same W.H H') (f : Same (W.at b) F') (fh : Same F' H') (fo : ∀ a o, W.H a = some o → F' a = W.at b a) :
    WOk (W.aft b H' F') ∧ Gr W (W.aft b H' F') ∧ Same F' ((W.aft b H' F').at b) := by
  have g1 : ∀ a o, W.H a = some o → (W.aft b H' F').G a = W.G a := fun a o e => by
    show (match W.H a with | some _ => W.G a | none => F' a) = _
    rw [e]
  have f1 : ∀ a o, W.H a = some o → (W.aft b H' F').F a = W.F a := fun a o e => by
    show (match W.H a with | some _ => W.F a | none => F' a) = _
    rw [e]
  have g2 : ∀ a, W.H a = none → (W.aft b H' F').G a = F' a := fun a e => by
    show (match W.H a with | some _ => W.G a | none => F' a) = _
    rw [e]
  have f2 : ∀ a, W.H a = none → (W.aft b H' F').F a = F' a := fun a e => by
    show (match W.H a with | some _ => W.F a | none => F' a) = _
    rw [e]
  refine ⟨⟨fun a o e => ?_, fun a o e => ?_, fun a xs e ht => ?_⟩, ⟨h, fun a o e => ?_, fun a o e => ?_, g1, f1⟩, fun a o e => ?_⟩
  · cases c : W.H a with
    | some u => rw [f1 a u c] at e; rw [g1 a u c]; exact k.fg a o e
    | none => rw [f2 a c] at e; rw [g2 a c]; exact e
  · cases c : W.H a with
    | some u => rw [g1 a u c] at e; exact h a o (k.gh a o e)
    | none => rw [g2 a c] at e; exact fh a o e
  · cases c : W.H a with
    | some u => rw [g1 a u c] at e; rw [f1 a u c]; exact k.gt a xs e ht
    | none => rw [g2 a c] at e; rw [f2 a c]; exact e
  · rw [g1 a o (k.gh a o e)]; exact e
  · rw [f1 a o (k.fh a o e)]; exact e
  · cases c : W.H a with
    | some u =>
      rw [fo a u c] at e
      cases b
      · show (W.aft false H' F').G a = some o
        rw [g1 a u c]; exact e
      · show (W.aft true H' F').F a = some o
        rw [f1 a u c]; exact e
    | none =>
      cases b
      · show (W.aft false H' F').G a = some o
        rw [g2 a c]; exact e
      · show (W.aft true H' F').F a = some o
        rw [f2 a c]; exact e
def gFn (m : List D → Option Res) (gs : GA) : GE := fun c => match gs c with
  | some ds => match m ds with
    | some (.val d) => some d
    | _ => none
  | none => none
theorem vt_call {b : Bool} {m : List D → Option Res} {ts : TA} {gs : GA} {E' : XK} (h : VArg K W0 b ts gs) : VT K W0 b (tCall (spP K m) [] E' ts) (gFn m gs) := by
  intro W σ c d Q k u s e q
  unfold gFn at e
  split at e
  · rename_i ds hds
    split at e
    · rename_i d' hm
      cases e
      refine h W σ c ds _ k u s hds fun W1 vs k1 g1 d1 => ?_
      rw [List.append_nil]
      refine ⟨W1.at b, ds, .val d, k1.atH b, d1, hm, fun H' F' v a1 a2 a3 a4 a5 => ?_⟩
      obtain ⟨k2, g2, f2⟩ := aft_ok k1 a1 a2 a3 a4
      exact q (W1.aft b H' F') v k2 (g1.trans g2) (a5.up f2)
    · cases e
  · cases e
/-- a call that may raise, as a statement -/
def gCallX (m : List D → Option Res) (gs : GA) (nxt : D → GS) : GS := fun c => match gs c with
  | some ds => match m ds with
    | some (.val d) => nxt d c
    | some (.exn C ns es) => some (.ex C ns es)
    | none => none
  | none => none
theorem vs_exprX {m : List D → Option Res} {ts : TA} {gs : GA} (h : VArg K W0 true ts gs) : VS K W0 E (tDrop (tCall (spP K m) [] E ts)) (gCallX m gs fun _ c => some (.nx c)) := by
  intro W σ c D k u s q
  unfold gCallX at q
  cases e : gs c with
  | none => rw [e] at q; exact q.elim
  | some ds =>
    simp only [e] at q
    refine h W σ c ds _ k u s e fun W1 vs k1 g1 d1 => ?_
    rw [List.append_nil]
    cases e2 : m ds with
    | none => simp only [e2] at q; exact q.elim
    | some r =>
      cases r with
      | val d =>
        simp only [e2] at q
        refine ⟨W1.F, ds, .val d, k1.fh, d1, e2, fun H' F' v a1 a2 a3 a4 a5 => ?_⟩
        obtain ⟨k2, g2, f2⟩ := aft_ok (b := true) k1 a1 a2 a3 a4
        exact q (W1.aft true H' F') σ k2 ((u.gr g1).gr g2) (g1.f.trans g2.f) ((s.gr g1).gr g2)
      | exn C ns es =>
        simp only [e2] at q
        refine ⟨W1.F, ds, .exn C ns es, k1.fh, d1, e2, fun H' F' dx fs a1 a2 a3 a4 a5 a6 a7 a8 => ?_⟩
        obtain ⟨k2, g2, f2⟩ := aft_ok (b := true) k1 a1 a2 a3 a4
        exact q (W1.aft true H' F') dx fs k2 ((u.gr g1).gr g2) (g1.f.trans g2.f) a6 ((u.gr g1).h.free a5) a7 (a8.up f2)
theorem vs_asgX {i : Nat} {m : List D → Option Res} {ts : TA} {gs : GA} (h : VArg K W0 true ts gs) : VS K W0 E (tAsg (tCall (spP K m) [] E ts) (gName i)) (gCallX m gs fun d c => some (.nx (c.set i (some (.fz d))))) := by
  intro W σ c D k u s q
  unfold gCallX at q
  cases e : gs c with
  | none => rw [e] at q; exact q.elim
  | some ds =>
    simp only [e] at q
    refine h W σ c ds _ k u s e fun W1 vs k1 g1 d1 => ?_
    rw [List.append_nil]
    cases e2 : m ds with
    | none => simp only [e2] at q; exact q.elim
    | some r =>
      cases r with
      | val d =>
        simp only [e2] at q
        refine ⟨W1.F, ds, .val d, k1.fh, d1, e2, fun H' F' v a1 a2 a3 a4 a5 => ?_⟩
        obtain ⟨k2, g2, f2⟩ := aft_ok (b := true) k1 a1 a2 a3 a4
        exact q (W1.aft true H' F') _ k2 ((u.gr g1).gr g2) (g1.f.trans g2.f) (sd_fz ((s.gr g1).gr g2) i (a5.up f2))
      | exn C ns es =>
        simp only [e2] at q
        refine ⟨W1.F, ds, .exn C ns es, k1.fh, d1, e2, fun H' F' dx fs a1 a2 a3 a4 a5 a6 a7 a8 => ?_⟩
        obtain ⟨k2, g2, f2⟩ := aft_ok (b := true) k1 a1 a2 a3 a4
        exact q (W1.aft true H' F') dx fs k2 ((u.gr g1).gr g2) (g1.f.trans g2.f) a6 ((u.gr g1).h.free a5) a7 (a8.up f2)

/-! ### instances -/
def lookD : List Str → List D → Str → Option D
  | n :: ns, d :: ds, f => if n = f then some d else lookD ns ds f
  | _, _, _ => none
theorem look_den {H : Hp} {f : Str} {d : D} : ∀ {ns : List Str} {ds : List D} {fs : List (Str × V)}, fs.map (·.1) = ns → DenL K H (fs.map (·.2)) ds → lookD ns ds f = some d → ∃ v, fs.lookup f = some v ∧ Den K H v d
  | [], _, fs, h1, h2, h3 => by simp [lookD] at h3
  | n :: ns, [], fs, h1, h2, h3 => by simp [lookD] at h3
  | n :: ns, e :: ds, [], h1, h2, h3 => by cases h1
  | n :: ns, e :: ds, (m, v) :: fs, h1, h2, h3 => by
    simp only [List.map_cons, List.cons.injEq] at h1
    obtain ⟨rfl, h1⟩ := h1
    cases h2 with
    | cons h4 h5 =>
      unfold lookD at h3
      by_cases hm : m = f
      · subst hm
        rw [if_pos rfl] at h3
        cases h3
        exact ⟨v, by simp [List.lookup], h4⟩
      · rw [if_neg hm] at h3
        obtain ⟨w, h6, h7⟩ := look_den h1 h5 h3
        have hb : (f == m) = false := by simpa using Ne.symm hm
        exact ⟨w, by simp [List.lookup, hb, h6], h7⟩
/-- o.f, the class of o at C -/
def gFld (C : Addr) (f : Str) (g : GE) : GE := fun c => match g c with
  | some (.ins C' ns ds) => if C' = C then lookD ns ds f else none
  | _ => none
theorem vt_fld {b : Bool} {C : Addr} {te : TE} {g : GE} {f : Str} (hc : Cls K C) (hn : NoAttr K C f) (h : VT K W0 b te g) : VT K W0 b (tFld K te f) (gFld C f g) := by
  intro W σ c d Q k u s e q
  unfold gFld at e
  split at e
  · rename_i C' ns ds hg
    split at e
    · rename_i hC
      subst hC
      refine h W σ c _ _ k u s hg fun W1 v k1 g1 d1 => ?_
      cases d1 with
      | ins h1 h2 h3 =>
        obtain ⟨w, h4, h5⟩ := look_den h2 h3 e
        exact ⟨_, _, _, _, w, rfl, k1.atH b _ _ h1, hc, hn, h4, q W1 w k1 g1 h5⟩
    · cases e
  · cases e
/-- __init__ of the class at C: the attributes that it leaves -/
def spI (K : PySem.W.Frag) (C : Addr) (m : List D → Option (List Str × List D)) : Sp := fun vs H Q _ => ∃ (x dx : Addr) (us : List V) (F : Hp) (ds : List D) (ns : List Str) (es : List D), vs = .ref x :: us ∧ H x = some (.ins C dx []) ∧ F x = none ∧ Same F H ∧ DenL K F us ds ∧ m ds = some (ns, es) ∧
  ∀ H' F' fs, (∀ a o, a ≠ x → H a = some o → H' a = some o) → Same F F' → F' x = none → Same F' H' → (∀ a o, H a = some o → F' a = F a) → H' x = some (.ins C dx fs) → fs.map (·.1) = ns → DenL K F' (fs.map (·.2)) es → Q .non H'
def gMake (C : Addr) (m : List D → Option (List Str × List D)) (gs : GA) : GE := fun c => match gs c with
  | some ds => match m ds with
    | some (ns, es) => some (.ins C ns es)
    | none => none
  | none => none
theorem vt_make {b : Bool} {C : Addr} {m : List D → Option (List Str × List D)} {ts : TA} {gs : GA} {E' : XK} (h : VArg K W0 b ts gs) : VT K W0 b (tMake C (spI K C m) [] E' ts) (gMake C m gs) := by
  intro W σ c d Q k u s e q
  unfold gMake at e
  split at e
  · rename_i ds hds
    split at e
    · rename_i ns es hm
      cases e
      refine h W σ c ds _ k u s hds fun W1 vs k1 g1 d1 => fun x dx hx hdx hne => ?_
      rw [List.append_nil]
      have Fx : (W1.at b) x = none := (k1.atH b).free hx
      have nex : ∀ a o, (W1.at b) a = some o → a ≠ x := fun a o z => ne_of_none z Fx
      have nedx : ∀ a o, (W1.at b) a = some o → a ≠ dx := fun a o z => ne_of_none z ((k1.atH b).free hdx)
      refine ⟨x, dx, vs, W1.at b, ds, ns, es, rfl, upd_same, Fx, fun a o z => ?_, d1, hm, fun H' F' fs a1 a2 a3 a4 a5 a6 a7 a8 => ⟨rfl, ?_⟩⟩
      · rw [upd_ne (nex a o z), upd_ne (nedx a o z)]; exact k1.atH b a o z
      · have hH : Same W1.H H' := fun a o z => a1 a o (ne_of_none z hx) (by rw [upd_ne (ne_of_none z hx), upd_ne (ne_of_none z hdx)]; exact z)
        have F2 : Same (W1.at b) (upd F' x (.ins C dx fs)) := a2.trans (same_upd a3)
        have F3 : Same (upd F' x (.ins C dx fs)) H' := fun a o z => by
          by_cases ha : a = x
          · subst ha; rw [upd_same] at z; cases z; exact a6
          · rw [upd_ne ha] at z; exact a4 a o z
        have F4 : ∀ a o, W1.H a = some o → (upd F' x (.ins C dx fs)) a = W1.at b a := fun a o z => by
          have n1 := ne_of_none z hx
          rw [upd_ne n1]
          exact a5 a o (by rw [upd_ne n1, upd_ne (ne_of_none z hdx)]; exact z)
        obtain ⟨k2, g2, f2⟩ := aft_ok (b := b) k1 hH F2 F3 F4
        exact q (W1.aft b H' (upd F' x (.ins C dx fs))) _ k2 (g1.trans g2) (Den.up (.ins upd_same a7 (a8.up (same_upd a3))) f2)
    · cases e
  · cases e
/-- self.f = e in __init__, f a new attribute -/
def gFldS (C : Addr) (i : Nat) (f : Str) (g : GE) : GS := fun c => match c[i]? with
  | some (some (.slf C' ns ds)) => match g c with
    | some d => if C' = C ∧ f ∉ ns ∧ ns.length < 1000 then some (.nx (c.set i (some (.slf C' (ns ++ [f]) (ds ++ [d]))))) else none
    | none => none
  | _ => none
theorem putF_new {f : Str} {v : V} : ∀ {fs : List (Str × V)}, f ∉ fs.map (·.1) → putF f v fs = fs ++ [(f, v)]
  | [], _ => rfl
  | (g, x) :: r, h => by
    unfold putF
    rw [List.map_cons, List.mem_cons, not_or] at h
    rw [if_neg (Ne.symm h.1), putF_new h.2]
    rfl
theorem vs_fldS {i : Nat} {te : TE} {g : GE} {f : Str} {C : Addr} (hc : Cls K C) (hn : NoAttr K C f) (h : VT K W0 true te g) :
    VS K W0 E (sFld K (tVar i) te f) (gFldS C i f g) := by
  intro W σ c D k u s q
  unfold gFldS at q
  split at q
  · rename_i C' ns' ds' hc'
    cases e : g c with
    | none => simp only [e] at q; exact q.elim
    | some d =>
      simp only [e] at q
      by_cases hf : C' = C ∧ f ∉ ns' ∧ ns'.length < 1000
      · rw [if_pos hf] at q
        obtain ⟨rfl, hf1, hf2⟩ := hf
        refine h W σ c d _ k u s e fun W1 v k1 g1 d1 => ?_
        have s1 := s.gr g1
        obtain ⟨x, hx, fs, rfl, e1, e2, e3, e4, e5, e6⟩ := s1.at hc'
        subst e5
        refine ⟨_, hx, W0.sa, _, W0.sd, fs, rfl, e1, hc, hn, by rw [List.length_map] at hf2; exact hf2, ?_⟩
        rw [putF_new hf1]
        have neG : ∀ b o, W1.G b = some o → b ≠ W0.sa := fun b o z w => by rw [w, e2] at z; cases z
        refine q ⟨upd W1.H W0.sa (.ins _ W0.sd (fs ++ [(f, v)])), W1.G, W1.F⟩ σ ⟨k1.fg, fun b o z => ?_, k1.gt⟩ ⟨fun b o z => ?_, (u.gr g1).f, (u.gr g1).fo⟩ g1.f ⟨by simp [s1.len], fun j z w h1 h2 => ?_, fun j m z w z' w' l h1 h2 h3 h4 h5 h6 => ?_⟩
        · show upd W1.H W0.sa _ b = some o
          rw [upd_ne (neG b o z)]; exact k1.gh b o z
        · show upd W1.H W0.sa _ b = some o
          rw [upd_ne (fun w => by rw [w, e4] at z; cases z)]; exact (u.gr g1).h b o z
        · by_cases hij : i = j
          · subst hij
            rw [List.getElem?_set_self (List.getElem?_eq_some_iff.mp hc').1] at h2
            cases h2
            rw [hx] at h1; cases h1
            exact ⟨fs ++ [(f, v)], rfl, upd_same, e2, e3, e4, by simp, by rw [List.map_append]; exact e6.append (.cons d1 .nil)⟩
          · rw [List.getElem?_set_ne hij] at h2
            have okc := s1.ok j z w h1 h2
            have nl : ∀ l, Holds z w l → l ≠ W0.sa := fun l hh zz => hij (s1.one i j _ _ _ _ W0.sa hx hc' h1 h2 ⟨rfl, rfl⟩ (zz ▸ hh))
            cases w with
            | none => trivial
            | some cl =>
              cases cl with
              | fz d => exact okc
              | own es =>
                obtain ⟨l2, us, a1, a2, a3, a4, a5, a6⟩ := okc
                exact ⟨l2, us, a1, (upd_ne (nl l2 ⟨a1, rfl⟩)).trans a2, a3, a4, a5, a6⟩
              | exc C ns es =>
                obtain ⟨us, a1, a2, a3, a4⟩ := okc
                exact ⟨us, a1, (upd_ne (ne_of a2 e1 (by intro z; cases z))).trans a2, a3, a4⟩
              | slf C ns es =>
                obtain ⟨us, a1, a2, a3, a4, a5, a6, a7⟩ := okc
                exact ⟨us, a1, (upd_ne (nl _ ⟨a1, rfl⟩)).trans a2, a3, a4, a5, a6, a7⟩
        · have back : ∀ (j : Nat) x y, σ[j]? = some x → (c.set i (some (.slf C' (fs.map (·.1) ++ [f]) (ds' ++ [d]))))[j]? = some y → Holds x y l → ∃ y', c[j]? = some y' ∧ Holds x y' l := by
            intro j x y q1 q2 q3
            by_cases hij : i = j
            · subst hij
              rw [List.getElem?_set_self (List.getElem?_eq_some_iff.mp hc').1] at q2
              cases q2
              exact ⟨_, hc', q3.1, rfl⟩
            · rw [List.getElem?_set_ne hij] at q2
              exact ⟨_, q2, q3⟩
          obtain ⟨y1, a1, b1⟩ := back j z w h1 h2 h5
          obtain ⟨y2, a2, b2⟩ := back m z' w' h3 h4 h6
          exact s1.one j m _ _ _ _ l h1 a1 h3 a2 b1 b2
      · rw [if_neg hf] at q; exact q.elim
  · exact q.elim
theorem spI_len {C : Addr} {m : List D → Option (List Str × List D)} {n : Nat} (hm : ∀ ds r, m ds = some r → ds.length = n) : ∀ vs H Q E, spI K C m vs H Q E → vs.length = n + 1 := by
  rintro vs H Q E' ⟨x, dx, us, F, ds, ns, es, rfl, _, _, _, hd, e, _⟩
  rw [List.length_cons, hd.length, hm ds _ e]
def envI (C : Addr) (nn : Nat) (ds : List D) : Env := some (.slf C [] []) :: (ds.map (fun d => some (.fz d)) ++ List.replicate (nn - 1 - ds.length) none)
/-- what an __init__ of n parameters beside self and nn names leaves -/
def iOf (C : Addr) (n nn : Nat) (g : GS) : List D → Option (List Str × List D) := fun ds => if ds.length = n then match g (envI C nn ds) with
  | some (Out.nx c) => match (c[0]? : Option (Option Cell)) with
    | some (some (Cell.slf C' ns es)) => if C' = C then some (ns, es) else none
    | _ => none
  | _ => none
  else none
theorem iOf_len {C : Addr} {n nn : Nat} {g : GS} {ds : List D} {r : List Str × List D} (h : iOf C n nn g ds = some r) : ds.length = n := by
  unfold iOf at h
  split at h
  · assumption
  · cases h
theorem iOf_some {C : Addr} {n nn : Nat} {g : GS} {ds : List D} {ns : List Str} {es : List D} (h : iOf C n nn g ds = some (ns, es)) : ∃ c, g (envI C nn ds) = some (.nx c) ∧ c[0]? = some (some (.slf C ns es)) := by
  unfold iOf at h
  split at h
  · split at h
    · rename_i c hc
      split at h
      · rename_i C' ns' es' h0
        split at h
        · rename_i e; cases h; subst e; exact ⟨c, hc, h0⟩
        · cases h
      · cases h
    · cases h
  · cases h
/-- THE RULE for an __init__ -/
theorem run_init {N : List Str} {C : Addr} {nn : Nat} {ts : TS} {g : GS} {n : Nat} {vs : List V} {H : Hp} {Q : VK} {E' : XK} (hN : N.length = nn) (hv : ∀ W0, VS K W0 E ts g)
    (h : spI K C (iOf C n nn g) vs H Q E') : ts { nx := fun _ H' => Q .non H', rt := Q } (L2.start N vs) H := by
  obtain ⟨x, dx, us, F, ds, ns, es, rfl, hx, hFx, hF, hd, e, q⟩ := h
  obtain ⟨cE, hcE, hc0⟩ := iOf_some e
  subst hN
  have hlen := hd.length
  have neF : ∀ a o, F a = some o → a ≠ x := fun a o z w => by rw [w, hFx] at z; cases z
  let W0 : Wd := ⟨fun a => if a = x then none else H a, fun b => if b = 2 then some (.own x) else if b = 3 then some (.own dx) else none, F⟩
  have u0 : Up W0 ⟨H, F, F⟩ := ⟨fun a o z => by
    have z' : (if a = x then none else H a) = some o := z
    split at z'
    · cases z'
    · exact z', Same.refl _, fun _ _ _ => rfl⟩
  have s0 : SD K W0 ⟨H, F, F⟩ (L2.start N (V.ref x :: us)) (envI C N.length ds) := by
    have est : L2.start N (V.ref x :: us) = some (V.ref x) :: (us.map some ++ List.replicate (N.length - 1 - us.length) none) := by
      unfold L2.start
      rw [List.map_cons, List.cons_append, List.length_cons]
      congr 3
      omega
    have hok : ∀ (i : Nat) y z, (us.map some ++ List.replicate (N.length - 1 - us.length) none)[i]? = some y → (ds.map (fun d => some (Cell.fz d)) ++ List.replicate (N.length - 1 - ds.length) none)[i]? = some z → CellOk K W0 ⟨H, F, F⟩ y z ∧ ∀ l, ¬ Holds y z l := by
      intro i y z h1 h2
      by_cases hi : i < ds.length
      · rw [List.getElem?_append_left (by simpa using hi)] at h2
        rw [List.getElem?_append_left (by simpa [hlen] using hi)] at h1
        simp [hi] at h2
        simp [hlen, hi] at h1
        subst h1 h2
        obtain ⟨v, hv', dv⟩ := hd.get (List.getElem?_eq_getElem hi)
        have : us[i]? = some us[i] := List.getElem?_eq_getElem (by omega)
        rw [this] at hv'; cases hv'
        exact ⟨⟨_, rfl, dv⟩, fun l => noHold_fz⟩
      · rw [List.getElem?_append_right (by simpa using Nat.le_of_not_lt hi), List.getElem?_replicate] at h2
        split at h2
        · cases h2; exact ⟨trivial, fun l => noHold_none⟩
        · cases h2
    rw [est]
    refine ⟨by simp [hlen, envI], fun i y z h1 h2 => ?_, fun i j y z y' z' l h1 h2 h3 h4 h5 h6 => ?_⟩
    · cases i with
      | zero =>
        cases h1; cases h2
        exact ⟨[], rfl, hx, hFx, hFx, if_pos rfl, rfl, .nil⟩
      | succ i => exact (hok i y z h1 h2).1
    · cases i with
      | zero =>
        cases j with
        | zero => rfl
        | succ j => exact ((hok j y' z' h3 h4).2 l h6).elim
      | succ i => exact ((hok i y z h1 h2).2 l h5).elim
  refine hv W0 ⟨H, F, F⟩ _ _ _ ⟨Same.refl _, hF, fun _ _ e _ => e⟩ u0 s0 ?_
  rw [hcE]
  intro W σ k u f s
  obtain ⟨y, hy, fs, rfl, e1, e2, e3, e4, e5, e6⟩ := s.at hc0
  replace e1 : W.H x = some (.ins C dx fs) := e1
  replace e3 : W.F x = none := e3
  refine q W.H W.F fs (fun a o ha ho => u.h a o ?_) u.f e3 k.fh (fun a o ho => ?_) e1 e5 e6
  · show (if a = x then none else H a) = some o
    rw [if_neg ha]; exact ho
  · by_cases ha : a = x
    · rw [ha, e3, hFx]
    · exact u.fo a o (by show (if a = x then none else H a) = some o; rw [if_neg ha]; exact ho)
end
end VL
end

section
/-! VE: enumerate of a list or a tuple, list(range), own exceptions raised and caught. -/
namespace PySem
open Sem (wp)
open AutoSeq1 (wpAny_loadPart')
theorem vl_meets_enumerate {v : Value} {o : Obj} {H : Heap → Prop} (B : Begins v o H) :
    Meets (Builtin.«enumerate.__new__» ⟨[.type "enumerate", v], []⟩) (fun _ R s => H s.heap ∧
      R (.ok (.ret (.ref (s.heap.push o).objs.size))) { s with heap := (s.heap.push o).push { cls := .type "enumerate", data := .fields #[.none, .bool false, .ref s.heap.objs.size, rawInt 0, .none, .none] } }) :=
  .of_wp fun prog w A R s h => by
    obtain ⟨hp, g, d, tk, os⟩ := s; obtain ⟨h1, h⟩ := h
    have hsub := sub_enumerate
    have q1 : ∀ {A' : Around} {E : Value → Shared → Prop} {Q : Value → Shared → Prop}, Q (.ref hp.objs.size) ⟨hp.push o, g, d, tk, os⟩ → wpAny (model prog w) A' (pyIter v) Q E ⟨hp, g, d, tk, os⟩ :=
      fun q => B.iter prog w _ _ ⟨hp, g, d, tk, os⟩ _ h1 q
    wp_walk using q1
    refine wpAny_stack_any fun st => wpAny_pure ?_
    split
    · rename_i c _ _ _ _ _
      cases (c == Value.type "enumerate")
      · wp_walk using q1
        exact ⟨_, rfl, h⟩
      · wp_walk using q1
        exact ⟨_, rfl, h⟩
    · wp_walk using q1
      exact ⟨_, rfl, h⟩
theorem vl_call_enumerate {prog : Program} {w : World} {A : Around} {E : Value → Shared → Prop} {s : Shared} {v : Value} {o : Obj} {H : Heap → Prop} {Q : Value → Shared → Prop} (B : Begins v o H) (h1 : H s.heap)
    (h : ∀ h', IsEnum h' (s.heap.objs.size + 1) s.heap.objs.size 0 .none → h'.get? s.heap.objs.size = some o → h'.objs.size = s.heap.objs.size + 2 →
      (∀ b o, s.heap.get? b = some o → h'.get? b = some o) → Q (.ref (s.heap.objs.size + 1)) { s with heap := h' }) :
    wpAny (model prog w) A (call (.type "enumerate") [v]) Q E s := by
  refine callType_new F.called_enumerate (by decide) (F.typeCall_enumerate_1 _) (F.newCall_enumerate_1 _) (fun obj => F.args_object_init_2 obj _) F.entry_enumerate_new
    (vl_meets_enumerate B) ⟨h1, ?_⟩
  have hz : (s.heap.push o).objs.size = s.heap.objs.size + 1 := Heap.size_push ..
  show _ ∧ _
  rw [hz]
  have he : IsEnum ((s.heap.push o).push { cls := .type "enumerate", data := .fields #[.none, .bool false, .ref s.heap.objs.size, rawInt 0, .none, .none] }) (s.heap.objs.size + 1) s.heap.objs.size 0 .none := by
    have := Heap.get?_push_size (s.heap.push o) (o := { cls := .type "enumerate", data := .fields #[.none, .bool false, .ref s.heap.objs.size, rawInt 0, .none, .none] }) rfl
    rw [hz] at this; exact this
  refine ⟨⟨_, he, rfl⟩, h _ he (Heap.get?_push_of_some _ (Heap.get?_push_size _ B.free)) (by rw [Heap.size_push, hz]) fun b o x => Heap.get?_push_of_some _ (Heap.get?_push_of_some _ x)⟩
theorem vl_enumT_end {prog : Program} {w : World} {A : Around} {E : Value → Shared → Prop} {s : Shared} {e it l : Addr} {i : Nat} {items : Array Value} {old : Value} {Q : Option Value → Shared → Prop} (hh : A.handled = none)
    (he : IsEnum s.heap e it i old) (hit : s.heap.IsTupleIter it l i) (hl : s.heap.IsTuple l items) (hx : items[i]? = none)
    (hQ : ∀ h', Heap.ExtBut it s.heap h' → Q none { s with heap := h' }) : wpAny (model prog w) A (pyNext (.ref e)) Q E s := by
  have hT : s.TypeIs (.ref e) "enumerate" := ⟨_, he, rfl⟩
  unfold pyNext
  refine wpAny_bind (wpAny_attempt (wpAny_callSpecial?_slot (name := Str.ofString "__next__") hT F.slot_enumerate_next
    (wpAny_call_entry F.slot_enumerate_next hT F.entry_enumerate_next ?_ (F.args_enumerate_next_1 _))))
  show wpAny _ _ (field (.ref e) 2 >>= _) _ _ _
  refine wpAny_bind (wpAny_field he rfl (x := .ref it) rfl ?_)
  refine wpAny_bind (wpAny_nextOf_tuple_end hh hit hl hx fun h' x he' hx' => ?_)
  obtain ⟨o, ho, hc⟩ := hx'
  refine wpAny_bind (wpAny_isInstance (T := "StopIteration") (b := true) ⟨o, ho, hc⟩ isSubtype_stop ?_)
  exact wpAny_pure (hQ _ he')
end PySem
namespace VL
open PySem PySem.Spec PyProof.Rows L2

/-! ### enumerate(tuple) -/
def IteT (K : PySem.W.Frag) (a : Addr) : It :=
  ⟨fun i H => ∃ (xs : List V) (x : V), SqT K H a xs ∧ xs[i]? = some x, fun i H v H' => ∃ T x, v = .ref T ∧ H T = none ∧ H' = upd H T (.tup [.int (i : Nat), x]) ∧ ∀ xs, SqT K H a xs → xs[i]? = some x, fun i H => ∃ xs : List V, SqT K H a xs ∧ xs.length ≤ i⟩
theorem turn_enumT {P : Program} {w : World} {K : PySem.W.Frag} {elts : List Expr} {kk : Nat} {tpos : Pos} (a e it : Addr) (hai : a ≠ it) (hae : a ≠ e) :
    Turn P w K (.Tuple elts kk tpos) (IteT K a) [e, it] e (fun i h => (∃ old, IsEnum h e it ((i : Nat) : Int) old) ∧ h.IsTupleIter it a i ∧ e ≠ it) where
  mem := by simp
  obj := fun i h st b hb => by
    obtain ⟨⟨old, he⟩, ⟨o, ho, hc, hd⟩, _⟩ := st
    have e' : b = e ∨ b = it := by simpa using hb
    rcases e' with z | z
    · rw [z]; exact ⟨_, he, fun v q => nomatch q⟩
    · rw [z]; exact ⟨o, ho, fun v q => by rw [hd] at q; cases q⟩
  keep := fun i h h' st k => let ⟨⟨old, he⟩, hi, hne⟩ := st; ⟨⟨old, k e (by simp) _ he⟩, hi.at fun o q => k it (by simp) o q, hne⟩
  item := by
    intro X hP hw hK hc i pins s σ H E I hf st hg
    subst hP hw hK
    obtain ⟨⟨old, he⟩, hit, hne⟩ := st
    obtain ⟨xs, x, hq, hx⟩ := hg
    obtain ⟨its, rv, p, hz⟩ := I.tuple hq
    have p2 : s.heap.IsTuple a its.toArray := p
    have hlen := rv.length
    have hil' : i < xs.length := (List.getElem?_eq_some_iff.mp hx).1
    have hel : e < s.heap.objs.size := Heap.lt_size he
    have hil : it < s.heap.objs.size := by obtain ⟨_, q, _⟩ := hit; exact Heap.lt_size q
    refine wpAny_pyNext_enum_itemD (fp := [it, a]) (Draws.tuple (prog := X.prog) (w := X.w) (A := X.A.in1) (show X.A.in1.handled = none from I.ok.hd hc) it a hai its.toArray) he ⟨hit, p2⟩ (by simp; omega) hne (by simp [hne, Ne.symm hae]) fun u h' tk hP ho hst hT hsz hk => ?_
    have hu : its[i]? = some u := by simpa using hP
    obtain ⟨u', hu', ru⟩ := rv.get hx
    rw [hu] at hu'; cases hu'
    refine ⟨_, rfl, wpAny_letOwnedTupleGo_enum (s := { s with heap := h', toks := tk + 1 }) ho fun h'' he' sb => ?_⟩
    have hT2 : h''.get? s.heap.objs.size = some { cls := .type "tuple", data := .seq #[.int i tk, u] } := (sb.2 _ (Nat.ne_of_gt hel)).trans hT
    have new : ObjOk X.prog X.w (upd H s.heap.objs.size (.tup [.int (i : Nat), x])) h'' s.heap.objs.size (.tup [.int (i : Nat), x]) :=
      ⟨by show 2 ≤ sizeLine; decide, [.int i tk, u], .cons ⟨_, rfl⟩ (.cons ru .nil), ⟨_, hT2, rfl, _, rfl⟩⟩
    have I1 : Inv X pins σ (upd H s.heap.objs.size (.tup [.int (i : Nat), x])) { s with heap := h'', toks := tk + 1 } :=
      I.turnedNew (ch := [e, it]) (fun b ob hb q => (sb.2 b (fun z => hb (by simp [z]))).trans (hk b ob (fun z => hb (by simp [z])) (fun z => hb (by simp [z])) q)) hf (Nat.le_refl _) new
    refine ⟨.ref s.heap.objs.size, _, I1, rfl, ⟨_, x, rfl, I.hok.fresh (Nat.le_refl _), rfl, fun ys hy => by rw [I.tuple_inj hy hq]; exact hx⟩, ⟨⟨u, ?_⟩, hst.1.at fun o q => (sb.2 it (Ne.symm hne)).trans q, hne⟩, fun b hb => ?_⟩
    · have e1 : ((i + 1 : Nat) : Int) = (i : Int) + 1 := by omega
      rw [e1]; exact he'
    · have hb' : b < s.heap.objs.size := by
        have e' : b = e ∨ b = it := by simpa using hb
        rcases e' with z | z
        · rw [z]; exact hel
        · rw [z]; exact hil
      rw [upd_ne (Nat.ne_of_lt hb')]
      exact (hf b hb).1
  done := by
    intro X hP hw hK hc i pins s σ H E I hf st hg
    subst hP hw hK
    obtain ⟨⟨old, he⟩, hit, hne⟩ := st
    obtain ⟨xs, hq, hx⟩ := hg
    obtain ⟨its, rv, p, hz⟩ := I.tuple hq
    have p2 : s.heap.IsTuple a its.toArray := p
    obtain ⟨f0, f1, f2, f3, f4, f5⟩ := hf it (by simp)
    have hl := rv.length
    exact vl_enumT_end (I.ok.hd hc) he hit p2 (by simp; omega) fun h' eb => ⟨rfl, I.turned (t' := s.toks) (fun b o hb q => eb b o hb q) f0 f1 f3 f4 f5⟩
  self := fun A i s Q E st h => let ⟨⟨_, he⟩, _⟩ := st; wpAny_pyIter_enum he h
/-- enumerate of a list or a tuple -/
def iEnumU (K : PySem.W.Frag) (ta : TA) : TI := fun σ H R => ta σ H fun vs H1 => ∃ a, vs = [.ref a] ∧ ((∃ xs, SqL K H1 a xs ∧ R (Ite K a) H1) ∨ (∃ xs, SqT K H1 a xs ∧ R (IteT K a) H1))
theorem pi_enumU {X : Cx} {e : Expr} {ta : TA} {p pos tpos : Pos} {elts : List Expr} {kk : Nat} (hg : Gl X "enumerate") (hm : X.mg "enumerate" = none) (ha : PA X [e] ta) (hs : starEach [e] X.env = [(false, eval e X.env)] := by rfl) :
    PI X (.Tuple elts kk tpos) (.Call (.Name "enumerate" p) [e] [] pos) (iEnumU X.K ta) := by
  refine ⟨fun pins s σ H R I h => ?_⟩
  refine Call_ (ld_blt I hg hm boot_enumerate (PyProof.Rows.callWith_type1 (thn (ha.run pos pins s σ H _ I h) fun us s1 ⟨vs, H1, I1, r1, q1⟩ => ?_) hs rfl))
  · obtain ⟨a, ev, q⟩ := q1
    subst ev
    cases r1 with
    | cons r rr =>
      cases rr
      cases r
      rcases q with ⟨xs, hq, q⟩ | ⟨xs, hq, q⟩
      · obtain ⟨its, rv, p', hz⟩ := I1.list hq
        refine call_enumerate_list p'.isList fun h' he hit hsz hk => wpAny_pyIter_enum he ?_
        have I2 : Inv X pins σ H1 { s1 with heap := h' } := I1.kept (t' := s1.toks) hk
        refine ⟨s1.heap.objs.size + 1, [s1.heap.objs.size + 1, s1.heap.objs.size], _, _, H1, rfl, I2, turn_enum a (s1.heap.objs.size + 1) s1.heap.objs.size, ⟨⟨.none, he⟩, hit, Nat.succ_ne_self _⟩, fun b hb => ?_, q⟩
        have e' : b = s1.heap.objs.size + 1 ∨ b = s1.heap.objs.size := by simpa using hb
        have hle : s1.heap.objs.size ≤ b := by
          rcases e' with z | z
          · rw [z]; exact Nat.le_add_right _ _
          · rw [z]; exact Nat.le_refl _
        exact I1.fpOk hle (I1.hok.fresh hle)
      · obtain ⟨its, rv, p', hz⟩ := I1.tuple hq
        have p2 : s1.heap.IsTuple a its.toArray := p'
        have hal : a < s1.heap.objs.size := by obtain ⟨o, ho, _⟩ := p2; exact Heap.lt_size ho
        refine vl_call_enumerate (begins_tuple a its.toArray) p2 fun h' he hit hsz hk => wpAny_pyIter_enum he ?_
        have I2 : Inv X pins σ H1 { s1 with heap := h' } := I1.kept (t' := s1.toks) hk
        refine ⟨s1.heap.objs.size + 1, [s1.heap.objs.size + 1, s1.heap.objs.size], _, _, H1, rfl, I2, turn_enumT a (s1.heap.objs.size + 1) s1.heap.objs.size (Nat.ne_of_lt hal) (Nat.ne_of_lt (Nat.lt_succ_of_lt hal)), ⟨⟨.none, he⟩, ⟨_, hit, rfl, rfl⟩, Nat.succ_ne_self _⟩, fun b hb => ?_, q⟩
        have e' : b = s1.heap.objs.size + 1 ∨ b = s1.heap.objs.size := by simpa using hb
        have hle : s1.heap.objs.size ≤ b := by
          rcases e' with z | z
          · rw [z]; exact Nat.le_add_right _ _
          · rw [z]; exact Nat.le_refl _
        exact I1.fpOk hle (I1.hok.fresh hle)
def enD (k : Nat) : List D → List D
  | [] => []
  | d :: ds => .tup [.int k, d] :: enD (k + 1) ds
theorem enD_len : ∀ (k : Nat) (ds : List D), (enD k ds).length = ds.length
  | _, [] => rfl
  | k, d :: ds => by simp [enD, enD_len (k + 1) ds]
theorem enD_get : ∀ {k : Nat} {ds : List D} {i : Nat} {z : D}, (enD k ds)[i]? = some z → ∃ d, ds[i]? = some d ∧ z = .tup [.int ((k + i : Nat) : Int), d]
  | _, [], _, _, h => by simp [enD] at h
  | k, d :: ds, 0, z, h => by simp [enD] at h; exact ⟨d, rfl, h.symm⟩
  | k, d :: ds, i + 1, z, h => by
    simp only [enD, List.getElem?_cons_succ] at h
    obtain ⟨e, h1, h2⟩ := enD_get h
    exact ⟨e, by simpa using h1, by rw [h2, show k + 1 + i = k + (i + 1) by omega]⟩
section
variable {K : PySem.W.Frag} {W0 : Wd} {E : XK}
theorem yields_enum {F : Hp} {a : Addr} {xs : List V} {ds : List D} (h : SqL K F a xs) (hd : DenL K F xs ds) : Yields K F (Ite K a) (enD 0 ds) := by
  intro W i k f
  have hq : SqL K W.H a xs := (k.fh).seq (f.seq h)
  refine ⟨fun hi => ⟨xs, hq, by rw [enD_len] at hi; rw [hd.length]; exact hi⟩, fun z e => ?_⟩
  obtain ⟨d, e1, rfl⟩ := enD_get e
  obtain ⟨v, hv, dv⟩ := hd.get e1
  refine ⟨⟨xs, v, hq, hv⟩, fun x H' y => ?_⟩
  obtain ⟨T, u, rfl, hT, rfl, hu⟩ := y
  have := hu xs hq
  rw [hv] at this; cases this
  refine ⟨W.new true T (.tup [.int (i : Nat), v]), new_ok k hT, new_gr k hT, rfl, .tup (SqT.of (new_self (b := true))) ?_⟩
  rw [Nat.zero_add]
  exact new_denL (b := true) k hT (.cons (.int _) (.cons (dv.up f) .nil))
theorem yields_enumT {F : Hp} {a : Addr} {xs : List V} {ds : List D} (h : SqT K F a xs) (hd : DenL K F xs ds) : Yields K F (IteT K a) (enD 0 ds) := by
  intro W i k f
  have hq : SqT K W.H a xs := sqT_same k.fh (sqT_same f h)
  refine ⟨fun hi => ⟨xs, hq, by rw [enD_len] at hi; rw [hd.length]; exact hi⟩, fun z e => ?_⟩
  obtain ⟨d, e1, rfl⟩ := enD_get e
  obtain ⟨v, hv, dv⟩ := hd.get e1
  refine ⟨⟨xs, v, hq, hv⟩, fun x H' y => ?_⟩
  obtain ⟨T, u, rfl, hT, rfl, hu⟩ := y
  have := hu xs hq
  rw [hv] at this; cases this
  refine ⟨W.new true T (.tup [.int (i : Nat), v]), new_ok k hT, new_gr k hT, rfl, .tup (SqT.of (new_self (b := true))) ?_⟩
  rw [Nat.zero_add]
  exact new_denL (b := true) k hT (.cons (.int _) (.cons (dv.up f) .nil))
def gEnum (g : GE) : GA := fun c => match g c with
  | some d => d.items.map (enD 0)
  | none => none
theorem vi_enum {te : TE} {g : GE} (h : VT K W0 true te g) : VI K W0 (iEnumU K (tCons te tNil)) (gEnum g) := by
  intro W σ c ds R k u s e q
  unfold gEnum at e
  split at e
  · rename_i d hd
    simp only [Option.map_eq_some_iff] at e
    obtain ⟨es, e1, e2⟩ := e
    subst e2
    refine h W σ c d _ k u s hd fun W1 v k1 g1 d1 => ?_
    cases d with
    | lst es =>
      cases e1
      cases d1 with
      | lst h1 h2 => exact ⟨_, rfl, .inl ⟨_, SqL.of (k1.fh _ _ h1), q W1 _ k1 g1 (yields_enum (SqL.of h1) h2)⟩⟩
    | scr es =>
      cases e1
      cases d1 with
      | scr h1 h2 => exact ⟨_, rfl, .inl ⟨_, k1.fh.seq h1, q W1 _ k1 g1 (yields_enum h1 h2)⟩⟩
    | tup es =>
      cases e1
      cases d1 with
      | tup h1 h2 => exact ⟨_, rfl, .inr ⟨_, sqT_same k1.fh h1, q W1 _ k1 g1 (yields_enumT h1 h2)⟩⟩
    | _ => cases e1
  · cases e

/-! ### list(range(..)) -/
def VRg (K : PySem.W.Frag) (W0 : Wd) (tr : L2.St → Hp → (Int → Int → Hp → Prop) → Prop) (g : Env → Option (Int × Int)) : Prop :=
  ∀ (W : Wd) (σ : L2.St) (c : Env) (r : Int × Int) (Q : Int → Int → Hp → Prop), WOk W → Up W0 W → SD K W0 W σ c → g c = some r → (∀ W', WOk W' → Gr W W' → Q r.1 r.2 W'.H) → tr σ W.H Q
def gR1 (g : GE) : Env → Option (Int × Int) := fun c => match g c with
  | some (.int j) => some (0, j)
  | _ => none
def gR2 (ga gb : GE) : Env → Option (Int × Int) := fun c => match ga c with
  | some (.int i) => match gb c with
    | some (.int j) => some (i, j)
    | _ => none
  | _ => none
theorem vr_1 {b : Bool} {te : TE} {g : GE} (h : VT K W0 b te g) : VRg K W0 (tRg1 te) (gR1 g) := by
  intro W σ c r Q k u s e q
  unfold gR1 at e
  split at e
  · rename_i j hj
    cases e
    exact h W σ c _ _ k u s hj fun W1 v k1 g1 d1 => by cases d1; exact ⟨j, rfl, q W1 k1 g1⟩
  · cases e
theorem vr_2 {b1 b2 : Bool} {ta tb : TE} {ga gb : GE} (ha : VT K W0 b1 ta ga) (hb : VT K W0 b2 tb gb) : VRg K W0 (tRg2 ta tb) (gR2 ga gb) := by
  intro W σ c r Q k u s e q
  unfold gR2 at e
  split at e
  · rename_i i hi
    split at e
    · rename_i j hj
      cases e
      refine ha W σ c _ _ k u s hi fun W1 v k1 g1 d1 => ?_
      cases d1
      exact hb W1 σ c _ _ k1 (u.gr g1) (s.gr g1) hj fun W2 v k2 g2 d2 => by cases d2; exact ⟨i, j, rfl, rfl, q W2 k2 (g1.trans g2)⟩
    · cases e
  · cases e
instance : ∀ a b, Decidable (RgOk a b) := fun a b => by unfold RgOk; infer_instance
def gLRg (g : Env → Option (Int × Int)) : GA := fun c => match g c with
  | some (a, b) => if RgOk a b then some (rgD a (b - a).toNat) else none
  | none => none
theorem den_rg {H : Hp} (a b : Int) : DenL K H (rgV a b) (rgD a (b - a).toNat) := by
  unfold rgV rgD
  generalize List.range (b - a).toNat = l
  induction l with
  | nil => exact .nil
  | cons x l ih => exact .cons (.int _) ih
theorem vn_listRg {tr : L2.St → Hp → (Int → Int → Hp → Prop) → Prop} {g : Env → Option (Int × Int)} (h : VRg K W0 tr g) : VN K W0 (tLstRg tr) (gLRg g) := by
  intro W σ c ds Q k u s e q
  unfold gLRg at e
  split at e
  · rename_i a b hab
    split at e
    · rename_i hz
      cases e
      exact h W σ c _ _ k u s hab fun W1 k1 g1 => ⟨hz, fun l hl => q W1 l _ k1 g1 hl (den_rg a b)⟩
    · cases e
  · cases e

/-! ### own exceptions -/
/-- __init__ of an exception class: one field, two fields -/
def spX1 (C : Addr) (f : Str) : Sp := fun vs H Q _ => ∃ (a : Addr) (y : V), vs = [.ref a, y] ∧ H a = some (exo a C none) ∧ ∀ d, H d = none → d ≠ a → Q .non (upd (upd H d (exd d [(f, y)])) a (exo a C (some d)))
def spX2 (C : Addr) (f g : Str) : Sp := fun vs H Q _ => ∃ (a : Addr) (y z : V), vs = [.ref a, y, z] ∧ H a = some (exo a C none) ∧ ∀ d, H d = none → d ≠ a → Q .non (upd (upd (upd H d (exd d [(f, y)])) a (exo a C (some d))) d (exd d [(g, z), (f, y)]))
theorem x1_run {C : Addr} {f : Str} {N : List Str} {vs : List V} {H : Hp} {Q : VK} {E' : XK} (T : OexC K C) (hf : PySem.W.findIn K (.ref C) f = some none) (h : spX1 C f vs H Q E') :
    tOst K f (tVar 0) (tVar 1) { nx := fun _ H' => Q .non H', rt := Q } (L2.start N vs) H := by
  obtain ⟨a, y, rfl, ha, q⟩ := h
  exact ⟨y, rfl, _, rfl, a, C, rfl, T, hf, .inl ⟨ha, fun d hd hne => q d hd hne⟩⟩
theorem x2_run {C : Addr} {f g : Str} {N : List Str} {vs : List V} {H : Hp} {Q : VK} {E' : XK} (T : OexC K C) (hf : PySem.W.findIn K (.ref C) f = some none) (hg : PySem.W.findIn K (.ref C) g = some none) (h : spX2 C f g vs H Q E') :
    tSeq (tOst K f (tVar 0) (tVar 1)) (tOst K g (tVar 0) (tVar 2)) { nx := fun _ H' => Q .non H', rt := Q } (L2.start N vs) H := by
  obtain ⟨a, y, z, rfl, ha, q⟩ := h
  refine ⟨y, rfl, _, rfl, a, C, rfl, T, hf, .inl ⟨ha, fun d hd hne => ?_⟩⟩
  refine ⟨z, rfl, _, rfl, a, C, rfl, T, hg, .inr ⟨d, [(f, y)], upd_same, ?_, by simp, q d hd hne⟩⟩
  rw [upd_ne hne, upd_same]
def gRaise1 (C : Addr) (f : Str) (g : GA) : GS := fun c => match g c with
  | some [y] => some (.ex C [f] [y])
  | _ => none
def gRaise2 (C : Addr) (f g : Str) (gs : GA) : GS := fun c => match gs c with
  | some [y, z] => some (.ex C [g, f] [z, y])
  | _ => none
theorem del_upd3 {H : Hp} {a d : Addr} {o1 o2 o3 : HO} {x : HO} (ha : H a = none) (hda : d ≠ a) : upd (del (upd (upd (upd H a o1) d o2) a o3) a) d x = upd H d x := by
  funext b
  by_cases hb : b = d
  · subst hb; rw [upd_same, upd_same]
  · rw [upd_ne hb, upd_ne hb]
    by_cases hba : b = a
    · subst hba; rw [del_same, ha]
    · rw [del_ne hba, upd_ne hba, upd_ne hb, upd_ne hba]
theorem del_upd4 {H : Hp} {a d : Addr} {o1 o2 o3 o4 : HO} {x : HO} (ha : H a = none) (hda : d ≠ a) : upd (del (upd (upd (upd (upd H a o1) d o2) a o3) d o4) a) d x = upd H d x := by
  funext b
  by_cases hb : b = d
  · subst hb; rw [upd_same, upd_same]
  · rw [upd_ne hb, upd_ne hb]
    by_cases hba : b = a
    · subst hba; rw [del_same, ha]
    · rw [del_ne hba, upd_ne hb, upd_ne hba, upd_ne hb, upd_ne hba]
theorem vs_raise1 {C : Addr} {f : Str} {ts : TA} {gs : GA} (h : VArg K W0 true ts gs) : VS K W0 E (fun _ σ H => tMkO C (spX1 C f) [] ts σ H fun cls d H' => E cls d H') (gRaise1 C f gs) := by
  intro W σ c D k u s q
  unfold gRaise1 at q
  split at q
  · rename_i y hy
    refine h W σ c _ _ k u s hy fun W1 vs k1 g1 d1 => ?_
    cases d1 with
    | @cons v _ _ _ h1 h2 =>
      cases h2
      refine ⟨by simp, fun a ha => ⟨a, v, rfl, upd_same, fun d hd hne => ⟨rfl, d, _, upd_same, by rw [upd_ne hne, upd_same], ?_, ?_⟩⟩⟩
      · rw [upd_ne hne] at hd; exact hd
      · rw [upd_ne hne] at hd
        rw [del_upd3 ha hne]
        have hn := (u.gr g1).h.free hd
        refine q ⟨upd W1.H d (.xd [(f, v)]), W1.G, W1.F⟩ d [(f, v)] ⟨k1.fg, k1.gh.trans (same_upd hd), k1.gt⟩ ⟨(u.gr g1).h.trans (same_upd hd), (u.gr g1).f, (u.gr g1).fo⟩ g1.f upd_same hn rfl (.cons h1 .nil)
  · exact q.elim
theorem vs_raise2 {C : Addr} {f g : Str} {ts : TA} {gs : GA} (h : VArg K W0 true ts gs) : VS K W0 E (fun _ σ H => tMkO C (spX2 C f g) [] ts σ H fun cls d H' => E cls d H') (gRaise2 C f g gs) := by
  intro W σ c D k u s q
  unfold gRaise2 at q
  split at q
  · rename_i y z hy
    refine h W σ c _ _ k u s hy fun W1 vs k1 g1 d1 => ?_
    cases d1 with
    | @cons v _ _ _ h1 h2 =>
      cases h2 with
      | @cons w _ _ _ h2 h3 =>
        cases h3
        refine ⟨by simp, fun a ha => ⟨a, v, w, rfl, upd_same, fun d hd hne => ⟨rfl, d, _, by rw [upd_ne (Ne.symm hne), upd_same], upd_same, ?_, ?_⟩⟩⟩
        · rw [upd_ne hne] at hd; exact hd
        · rw [upd_ne hne] at hd
          rw [del_upd4 ha hne]
          have hn := (u.gr g1).h.free hd
          refine q ⟨upd W1.H d (.xd [(g, w), (f, v)]), W1.G, W1.F⟩ d [(g, w), (f, v)] ⟨k1.fg, k1.gh.trans (same_upd hd), k1.gt⟩ ⟨(u.gr g1).h.trans (same_upd hd), (u.gr g1).f, (u.gr g1).fo⟩ g1.f upd_same hn rfl (.cons h2 (.cons h1 .nil))
  · exact q.elim

/-! ### try: f(..) except X as n: suite -/
def notExc : Option Cell → Bool
  | some (.exc _ _ _) => false
  | _ => true
def excW (W0 : Wd) (a d : Addr) : Wd := ⟨W0.H, fun b => if b = 0 then some (.own a) else if b = 1 then some (.own d) else W0.G b, W0.F⟩
theorem excW_xa {a d : Addr} : (excW W0 a d).xa = a := rfl
theorem excW_xd {a d : Addr} : (excW W0 a d).xd = d := rfl
theorem sd_excW {W W0' : Wd} {σ : L2.St} {c : Env} (hH : W0'.H = W0.H) (hA : W0'.sa = W0.sa) (hD : W0'.sd = W0.sd) (hn : c.all notExc = true) (s : SD K W0 W σ c) : SD K W0' W σ c := by
  refine ⟨s.len, fun i x y h1 h2 => ?_, s.one⟩
  have okc := s.ok i x y h1 h2
  have hy : notExc y = true := List.all_eq_true.mp hn y (List.mem_of_getElem? h2)
  cases y with
  | none => trivial
  | some cl =>
    cases cl with
    | fz d => exact okc
    | own ds => obtain ⟨l, vs, a1, a2, a3, a4, a5, a6⟩ := okc; exact ⟨l, vs, a1, a2, a3, a4, by rw [hH]; exact a5, a6⟩
    | slf C ns ds => obtain ⟨fs, a1, a2, a3, a4, a5, a6⟩ := okc; exact ⟨fs, by rw [hA]; exact a1, by rw [hA, hD]; exact a2, by rw [hA]; exact a3, by rw [hA]; exact a4, by rw [hH, hA]; exact a5, a6⟩
    | exc C ns ds => exact absurd hy Bool.false_ne_true
/-- the body is one call; the exceptions it may raise are of the class at C, which the clause names -/
def gTry (i : Nat) (C : Addr) (m : List D → Option Res) (ga : GA) (gs : GS) : GS := fun c => match ga c with
  | some ds => match m ds with
    | some (.val _) => some (.nx c)
    | some (.exn C' ns es) => if C' = C ∧ (c.set i none).all notExc = true then
        match gs (c.set i (some (.exc C ns es))) with
        | some (.nx c') => if (c'.set i none).all notExc = true then some (.nx (c'.set i none)) else none
        | some (.ret d) => some (.ret d)
        | _ => none
      else none
    | none => none
  | none => none
theorem vs_try {i : Nat} {C : Addr} {cV : Value} {m : List D → Option Res} {ta : TA} {ga : GA} {ts : Addr → Value → Option Addr → TS} {gs : GS} {Wout : WX}
    (hx : PySem.W.exmOne K (.ref C) cV = some true) (ha : VArg K W0 true ta ga) (hs : ∀ a d, VS K (excW W0 a d) E (ts a (.ref C) (some d)) gs) :
    VS K W0 E (fun D σ H => tDrop (tCallS (spP K m) (WE (wAs K cV i ts Wout D)) ta) D σ H) (gTry i C m ga gs) := by
  intro W σ c D k u s q
  unfold gTry at q
  cases e : ga c with
  | none => rw [e] at q; exact q.elim
  | some ds =>
    simp only [e] at q
    refine ha W σ c ds _ k u s e fun W1 vs k1 g1 d1 => ?_
    cases e2 : m ds with
    | none => simp only [e2] at q; exact q.elim
    | some r =>
      cases r with
      | val d =>
        simp only [e2] at q
        refine ⟨W1.F, ds, .val d, k1.fh, d1, e2, fun H' F' v a1 a2 a3 a4 a5 => ?_⟩
        obtain ⟨k2, g2, f2⟩ := aft_ok (b := true) k1 a1 a2 a3 a4
        exact q (W1.aft true H' F') σ k2 ((u.gr g1).gr g2) (g1.f.trans g2.f) ((s.gr g1).gr g2)
      | exn C' ns es =>
        simp only [e2] at q
        by_cases hC : C' = C ∧ (c.set i none).all notExc = true
        · rw [if_pos hC] at q
          obtain ⟨rfl, hne⟩ := hC
          refine ⟨W1.F, ds, .exn C' ns es, k1.fh, d1, e2, fun H' F' dx fs a1 a2 a3 a4 a5 a6 a7 a8 => ?_⟩
          obtain ⟨k2, g2, f2⟩ := aft_ok (b := true) k1 a1 a2 a3 a4
          refine ⟨true, hx, fun _ a na => ?_, fun z => nomatch z⟩
          have u2 := (u.gr g1).gr g2
          have s2 := (s.gr g1).gr g2
          have u3 : Up (excW W0 a dx) (W1.aft true H' F') := ⟨u2.h, u2.f, u2.fo⟩
          have s3 : SD K (excW W0 a dx) (W1.aft true H' F') (σ.set i none) (c.set i none) := sd_excW (W0 := W0) (W0' := excW W0 a dx) rfl rfl rfl hne (sd_set s2 i none none trivial fun l h => (noHold_none h).elim)
          have s4 : SD K (excW W0 a dx) (W1.aft true H' F') (σ.set i (some (.ref a))) (c.set i (some (.exc C' ns es))) := by
            have z := sd_set s3 i (some (.ref a)) (some (.exc C' ns es)) ⟨fs, rfl, a6, a7, a8.up f2⟩ fun l h => absurd h.2 Bool.false_ne_true
            rw [List.set_set, List.set_set] at z
            exact z
          refine hs a dx (W1.aft true H' F') _ _ _ k2 u3 s4 ?_
          have f3 : Same W.F (W1.aft true H' F').F := g1.f.trans g2.f
          cases e3 : gs (c.set i (some (.exc C' ns es))) with
          | none => rw [e3] at q; exact q.elim
          | some o =>
            rw [e3] at q
            cases o with
            | nx c' =>
              simp only at q
              by_cases hn' : (c'.set i none).all notExc = true
              · rw [if_pos hn'] at q
                intro W3 σ3 k3 u4 f4 s5
                exact q W3 _ k3 ⟨u4.h, u4.f, u4.fo⟩ (f3.trans f4) (sd_excW (W0 := excW W0 a dx) (W0' := W0) rfl rfl rfl hn' (sd_set s5 i none none trivial fun l h => (noHold_none h).elim))
              · rw [if_neg hn'] at q; exact q.elim
            | ret d => exact fun W3 v k3 u4 f4 d3 => q W3 v k3 ⟨u4.h, u4.f, u4.fo⟩ (f3.trans f4) d3
            | bk c => exact q.elim
            | ct c => exact q.elim
            | ex C ns es => exact q.elim
        · rw [if_neg hC] at q; exact q.elim
/-- n.f in the suite -/
def gXf (i : Nat) (C : Addr) (f : Str) : GE := fun c => match c[i]? with
  | some (some (.exc C' ns es)) => if C' = C then lookD ns es f else none
  | _ => none
theorem vt_xf {b : Bool} {i : Nat} {a d C : Addr} {f : Str} : VT K (excW W0 a d) b (tXf a (.ref C) (some d) C f (tVar i)) (gXf i C f) := by
  intro W σ c z Q k u s e q
  unfold gXf at e
  split at e
  · rename_i C' ns es hc
    split at e
    · rename_i hC
      subst hC
      obtain ⟨x, hx, fs, rfl, e1, e2, e3⟩ := s.at hc
      obtain ⟨v, e4, e5⟩ := look_den e2 e3 e
      exact ⟨_, hx, rfl, rfl, d, fs, v, rfl, e1, e4, q W v k (Gr.refl W) (e5.up (by cases b; exact k.fg; exact Same.refl _))⟩
    · cases e
  · cases e
end
end VL
end

section
/-! VF: what the printed derivations name beside VA .. VE. -/
namespace VL
open PySem PySem.Spec PyProof.Rows L2
section
variable {K : PySem.W.Frag} {W0 : Wd} {E : XK} {b : Bool}
def gL (g : GA) : GE := fun c => match g c with
  | some ds => some (.lst ds)
  | none => none
theorem vt_vn {te : TE} {g : GA} (h : VN K W0 te g) : VT K W0 b te (gL g) := by
  have e : gL g = fun c => (g c).map D.lst := by
    funext c
    unfold gL
    cases g c <;> rfl
  rw [e]
  exact h.vt
/-- a, b = x, y -/
def gPar (i j : Nat) (g : GA) : GS := fun c => match g c with
  | some [x, y] => some (.nx ((c.set i (some (.fz x))).set j (some (.fz y))))
  | _ => none
theorem vs_par {i j : Nat} {ta : TA} {g : GA} (h : VArg K W0 true ta g) : VS K W0 E (tPar i j ta) (gPar i j g) := by
  intro W σ c D k u s q
  unfold gPar at q
  split at q
  · rename_i x y hg
    refine h W σ c _ _ k u s hg fun W1 vs k1 g1 d1 => ?_
    cases d1 with
    | cons h1 h2 =>
      cases h2 with
      | cons h2 h3 =>
        cases h3
        exact ⟨_, _, rfl, q W1 _ k1 (u.gr g1) g1.f (sd_fz (sd_fz (s.gr g1) i h1) j h2)⟩
  · exact q.elim
/-- a list or a tuple or a text is walked -/
def iSeqU (K : PySem.W.Frag) (tl : TE) : TI := fun σ H R => tl σ H fun x H1 => (∃ z, x = .str z ∧ R (Its z) H1) ∨ (∃ a, x = .ref a ∧ ((∃ xs, SqL K H1 a xs ∧ R (Itl K a) H1) ∨ (∃ xs, SqT K H1 a xs ∧ R (Itt K a) H1)))
def D.iter : D → Option (List D)
  | .str x => some (x.cps.toList.map fun n => .str ⟨#[n]⟩)
  | .lst ds => some ds | .tup ds => some ds | .scr ds => some ds | _ => none
def gIt (g : GE) : GA := fun c => match g c with
  | some d => d.iter
  | none => none
theorem yields_str {F : Hp} {x : Str} : Yields K F (Its x) (x.cps.toList.map fun n => .str ⟨#[n]⟩) := by
  intro W2 i k2 f2
  refine ⟨fun hi => ?_, fun d hd => ?_⟩
  · simp only [List.length_map, Array.length_toList] at hi
    exact hi
  · rw [List.getElem?_map] at hd
    simp only [Option.map_eq_some_iff] at hd
    obtain ⟨n, h1, h2⟩ := hd
    subst h2
    have hn : x.cps[i]? = some n := by simpa using h1
    refine ⟨?_, fun y H' hy => ⟨W2, k2, Gr.refl W2, ?_, ?_⟩⟩
    · exact (Array.getElem?_eq_some_iff.mp hn).1
    · exact hy.1.symm
    · obtain ⟨_, m, e1, e2⟩ := hy
      rw [hn] at e1
      cases e1
      rw [e2]
      exact .str _
theorem vi_seqU {te : TE} {g : GE} (h : VT K W0 true te g) : VI K W0 (iSeqU K te) (gIt g) := by
  intro W σ c ds R k u s e q
  unfold gIt at e
  split at e
  · rename_i d hd
    refine h W σ c d _ k u s hd fun W1 v k1 g1 d1 => ?_
    cases d with
    | str x =>
      cases e
      cases d1
      exact .inl ⟨x, rfl, q W1 _ k1 g1 yields_str⟩
    | lst es =>
      cases e
      cases d1 with
      | lst h1 h2 => exact .inr ⟨_, rfl, .inl ⟨_, SqL.of (k1.fh _ _ h1), q W1 _ k1 g1 (yields_list (SqL.of h1) h2)⟩⟩
    | scr es =>
      cases e
      cases d1 with
      | scr h1 h2 => exact .inr ⟨_, rfl, .inl ⟨_, k1.fh.seq h1, q W1 _ k1 g1 (yields_list h1 h2)⟩⟩
    | tup es =>
      cases e
      cases d1 with
      | tup h1 h2 => exact .inr ⟨_, rfl, .inr ⟨_, sqT_same k1.fh h1, q W1 _ k1 g1 (yields_tup h1 h2)⟩⟩
    | _ => cases e
  · cases e
/-- isinstance(x, (T1, T2)) -/
def dIsi2 (n m : String) (d : D) : Option D := match d.ty with
  | some t => match kitB t n with
    | some true => some (.bl true)
    | some false => (kitB t m).map .bl
    | none => none
  | none => none
def gIsi2 (n m : String) (g : GE) : GE := fun c => (g c).bind (dIsi2 n m)
theorem vt_isi2 {b1 : Bool} {n m : String} {te : TE} {g : GE} (h : VT K W0 b1 te g) : VT K W0 b (tCB (rIsiT K) (tCons te (tCons (tTup (tCons (tC (.ty n)) (tCons (tC (.ty m)) tNil))) tNil))) (gIsi2 n m g) := by
  intro W σ c d Q k u s e q
  unfold gIsi2 at e
  simp only [Option.bind_eq_some_iff] at e
  obtain ⟨x, e1, e2⟩ := e
  unfold dIsi2 at e2
  split at e2
  · rename_i t ht
    refine h W σ c x _ k u s e1 fun W1 v k1 g1 d1 => ?_
    refine ⟨by show 2 ≤ sizeLine; decide, fun p hp => ?_⟩
    have k2 : WOk (W1.new true p (.tup [.ty n, .ty m])) := new_ok k1 hp
    have g2 : Gr W1 (W1.new true p (.tup [.ty n, .ty m])) := new_gr k1 hp
    have hty : TyX K (upd W1.H p (.tup [.ty n, .ty m])) v (.type t) := ty_run (d1.up ((k1.atH b1).trans (same_upd hp))) ht
    have fin : ∀ r, PySem.W.kitAny K (.type t) [.type n, .type m] = some r → d = .bl r → rIsiT K [v, .ref p] (upd W1.H p (.tup [.ty n, .ty m])) Q := by
      intro r hr hd
      subst hd
      exact ⟨v, p, [.ty n, .ty m], .type t, [.type n, .type m], r, rfl, upd_same, .cons (.ty n) (.cons (.ty m) .nil), hty, hr, q _ _ k2 (g1.trans g2) (.bl r)⟩
    split at e2
    · rename_i hk
      cases e2
      exact fin true (kitAny_cons (kit_ty hk) (fun z => nomatch z) (fun _ => rfl)) rfl
    · rename_i hk
      simp only [Option.map_eq_some_iff] at e2
      obtain ⟨r, h1, h2⟩ := e2
      exact fin r (kitAny_cons (kit_ty hk) (fun _ => kitAny_cons (kit_ty h1) (fun z => by rw [z]; exact kitAny_nil) (fun z => z)) (fun z => nomatch z)) h2.symm
    · cases e2
  · cases e2
end
/-! ### walks of texts, lists, tuples; a def by its name -/
theorem pi_seqU {X : Cx} {tg l : Expr} {tl : TE} (hl : PE X l tl) : PI X tg l (iSeqU X.K tl) := by
  refine ⟨fun pins s σ H R I h => ?_⟩
  refine thn (hl.run pins s σ H _ I h) fun v s1 ⟨x, H1, I1, r1, q1⟩ => ?_
  rcases q1 with ⟨z, e, q⟩ | ⟨a, e, q1⟩
  · subst e
    obtain ⟨t, rfl⟩ := r1
    cases ha : z.cps.all (· < 128)
    · exact wpAny_pyIter_wide ha (pi_one (tk := s1.toks) I1 _ (turn_str _ z t "str_iterator" (.inr rfl)) ⟨_, Heap.get?_push_size _ rfl, rfl, rfl⟩ q)
    · exact wpAny_pyIter_ascii ha (pi_one (tk := s1.toks) I1 _ (turn_str _ z t "str_ascii_iterator" (.inl rfl)) ⟨_, Heap.get?_push_size _ rfl, rfl, rfl⟩ q)
  · subst e
    cases r1
    rcases q1 with ⟨xs, hq, q⟩ | ⟨xs, hq, q⟩
    · obtain ⟨its, rv, p, hz⟩ := I1.list hq
      exact wpAny_pyIter_list p.isList (pi_one (tk := s1.toks) I1 _ (turn_list a _) ⟨_, Heap.get?_push_size _ rfl, rfl, rfl⟩ q)
    · obtain ⟨its, rv, p, hz⟩ := I1.tuple hq
      have p2 : s1.heap.IsTuple a its.toArray := p
      exact wpAny_pyIter_tuple p2 (pi_one (tk := s1.toks) I1 _ (turn_tuple a _) ⟨_, Heap.get?_push_size _ rfl, rfl, rfl⟩ q)
theorem pe_gc {X : Cx} {x : Str} {v : V} {pos : Pos} (hg : Gl X x) (h : ∃ u, X.mg x = some u ∧ RelV v u) (hd : (x == ("__debug__" : Str)) = false := by decide) : PE X (.Name x pos) (tC v) := by
  obtain ⟨u, hm, r⟩ := h
  exact pe_glob hg hm r hd
structure CalX (P : Program) (w : World) (K : PySem.W.Frag) (mg : Str → Option Value) (base : Heap) (CX : CXT) (k : Nat) (x : Str) (sp : Sp) : Prop where
  ex : ∃ (f : Addr) (fd : FuncData) (ps : List Str), FnOk P w K mg base CX k f fd ps sp ∧ mg x = some (.ref f) ∧ PySem.W.keepIn K (.ref f) = true ∧ Binds K fd ps []
structure MakX (P : Program) (w : World) (K : PySem.W.Frag) (mg : Str → Option Value) (base : Heap) (CX : CXT) (k : Nat) (x : Str) (C : Addr) (sp : Sp) : Prop where
  ex : ∃ (f : Addr) (fd : FuncData) (ps : List Str), Mk K C f ∧ FnOk P w K mg base CX k f fd ps sp ∧ mg x = some (.ref C) ∧ Binds K fd ps []
section
variable {X : Cx} {CX : CXT} {k j : Nat} {C : Addr} {x m : Str} {sp : Sp} {p pos apos : Pos} {e o : Expr} {es : List Expr} {ta : TE} {t : TA} {E : XK}
theorem pe_cx (c : CalX X.prog X.w X.K X.mg X.base CX k x sp) (hr : Room j X.A) (hk : k ≤ j) (hx : Passes CX X E) (hg : Gl X x) (ha : PA X (e :: es) t)
    (hdb : (x == ("__debug__" : Str)) = false := by decide) (he : starEach (e :: es) X.env = (false, eval e X.env) :: starEach es X.env := by rfl) (hpl : (backTo pos (starEach es X.env)).any (·.1) = false := by rfl) :
    PE X (.Call (.Name x p) (e :: es) [] pos) (tCall sp [] E t) := by
  obtain ⟨f, fd, ps, F, hm, kp, b⟩ := c.ex
  exact pe_call F (hr.mono hk) hg hm kp b .nil hx ha hdb he hpl
theorem pe_cx0 (c : CalX X.prog X.w X.K X.mg X.base CX k x sp) (hr : Room j X.A) (hk : k ≤ j) (hx : Passes CX X E) (hg : Gl X x)
    (hdb : (x == ("__debug__" : Str)) = false := by decide) :
    PE X (.Call (.Name x p) [] [] pos) (tCall sp [] E tNil) := by
  obtain ⟨f, fd, ps, F, hm, kp, b⟩ := c.ex
  exact pe_call0 F (hr.mono hk) hg hm kp b .nil hx hdb
theorem pe_csx (c : CalX X.prog X.w X.K X.mg X.base CX k x sp) (hr : Room j X.A) (hk : k ≤ j) {E' : L2.St → XK} (hx : ∀ σ, PassesAt CX X σ (E' σ)) (hg : Gl X x) (ha : PA X (e :: es) t)
    (hdb : (x == ("__debug__" : Str)) = false := by decide) (he : starEach (e :: es) X.env = (false, eval e X.env) :: starEach es X.env := by rfl) (hpl : (backTo pos (starEach es X.env)).any (·.1) = false := by rfl) :
    PE X (.Call (.Name x p) (e :: es) [] pos) (tCallS sp E' t) := by
  obtain ⟨f, fd, ps, F, hm, kp, b⟩ := c.ex
  exact pe_callS F (hr.mono hk) hg hm kp b hx ha hdb he hpl
theorem pe_mx (c : MakX X.prog X.w X.K X.mg X.base CX k x C sp) (hr : Room j X.A) (hk : k + 1 ≤ j) (hx : Passes CX X E) (hg : Gl X x) (ha : PA X (e :: es) t)
    (hdb : (x == ("__debug__" : Str)) = false := by decide) (he : starEach (e :: es) X.env = (false, eval e X.env) :: starEach es X.env := by rfl) (hpl : (backTo pos (starEach es X.env)).any (·.1) = false := by rfl) :
    PE X (.Call (.Name x p) (e :: es) [] pos) (tMake C sp [] E t) := by
  obtain ⟨f, fd, ps, M, F, hm, b⟩ := c.ex
  exact pe_make M F (hr.mono hk) hg hm b .nil hx ha hdb he hpl
/-- an own exception class that is raised by its name -/
structure ExcX (P : Program) (w : World) (K : PySem.W.Frag) (mg : Str → Option Value) (base : Heap) (k : Nat) (x : Str) (C : Addr) (sp : Sp) : Prop where
  ex : ∃ (f : Addr) (fd : FuncData) (ps : List Str), OexC K C ∧ PySem.W.findIn K (.ref C) "__init__" = some (some (.ref f)) ∧ PySem.W.typeIn K (.ref f) = some (.type "function") ∧ FnOk P w K mg base CX0 k f fd ps sp ∧ Binds K fd ps [] ∧ mg x = some (.ref C)
theorem pmk_x {ta' : TA} (c : ExcX X.prog X.w X.K X.mg X.base k x C sp) (hr : Room j X.A) (hk : k + 1 ≤ j) (hg : Gl X x) (ha : PA X (e :: es) ta')
    (hdb : (x == ("__debug__" : Str)) = false := by decide) (he : starEach (e :: es) X.env = (false, eval e X.env) :: starEach es X.env := by rfl) (hpl : (backTo pos (starEach es X.env)).any (·.1) = false := by rfl) :
    PMk X (.Call (.Name x p) (e :: es) [] pos) (tMkO C sp [] ta') := by
  obtain ⟨f, fd, ps, T, iC, tI, F, b, hm⟩ := c.ex
  exact pmk_oex T iC tI F (hr.mono hk) b .nil pass0 hg hm ha hdb he hpl
end
end VL
end

section
/-! VX: a def that returns a new list whose last item is a list of its own; a caller that appends to that item. -/
namespace VL
open PySem PySem.Spec PyProof.Rows L2
section
variable {K : PySem.W.Frag} {W0 : Wd} {E : XK} {b : Bool}
abbrev GM := Env → Option (List D × List D)
def gA2 (g1 g2 : GE) : GA := fun c => match g1 c with
  | some x => match g2 c with
    | some y => some [x, y]
    | none => none
  | none => none
theorem gA2_some {g1 g2 : GE} {c : Env} {ds : List D} (h : gA2 g1 g2 c = some ds) : ∃ x y, g1 c = some x ∧ g2 c = some y ∧ ds = [x, y] := by
  unfold gA2 at h
  split at h
  · rename_i x hx
    split at h
    · rename_i y hy
      cases h
      exact ⟨x, y, hx, hy, rfl⟩
    · cases h
  · cases h
def VM (K : PySem.W.Frag) (W0 : Wd) (ts : TS) (g : GM) : Prop :=
  ∀ (W : Wd) (σ : L2.St) (c : Env) (D : Ends) (ds es : List VL.D), WOk W → Up W0 W → SD K W0 W σ c → g c = some (ds, es) →
    (∀ W' p l vs us, WOk W' → Up W0 W' → Same W.F W'.F → W'.H p = some (.lst (vs ++ [.ref l])) → W'.H l = some (.lst us) → W0.H p = none → W0.H l = none → p ≠ l → W'.F p = none → W'.F l = none → DenL K W'.F vs ds → DenL K W'.F us es → D.rt (.ref p) W'.H) → ts D σ W.H
def gMSeq (g1 : GS) (g2 : GM) : GM := fun c => match g1 c with
  | some (.nx c') => g2 c'
  | _ => none
theorem vm_seq {t1 t2 : TS} {g1 : GS} {g2 : GM} (h1 : VS K W0 E t1 g1) (h2 : VM K W0 t2 g2) : VM K W0 (tSeq t1 t2) (gMSeq g1 g2) := by
  intro W σ c D ds es k u s e q
  unfold gMSeq at e
  split at e
  · rename_i c' hc'
    refine h1 W σ c { D with nx := t2 D } k u s ?_
    rw [hc']
    exact fun W1 σ1 k1 u1 f1 s1 => h2 W1 σ1 c' D ds es k1 u1 s1 e fun W' p l vs us a1 a2 a3 => q W' p l vs us a1 a2 (f1.trans a3)
  · cases e
/-- return [.., x], x a list of one's own -/
def gMRet (i : Nat) (g : GA) : GM := fun c => match c[i]? with
  | some (some (.own es)) => match g c with
    | some ds => if ds.length < sizeLine then some (ds, es) else none
    | none => none
  | _ => none
theorem vm_ret {i : Nat} {t1 t2 : TE} {g1 g2 : GE} (h1 : VT K W0 true t1 g1) (h2 : VT K W0 true t2 g2) :
    VM K W0 (tRet (tLst (tCons t1 (tCons t2 (tCons (tVar i) tNil))))) (gMRet i (gA2 g1 g2)) := by
  intro W σ c D ds es k u s e q
  unfold gMRet at e
  split at e
  · rename_i es' hc
    split at e
    · rename_i ds' hds
      split at e
      · rename_i hz
        cases e
        obtain ⟨x, y, ex, ey, rfl⟩ := gA2_some hds
        refine h1 W σ c x _ k u s ex fun Wa va ka ga da => ?_
        refine h2 Wa σ c y _ ka (u.gr ga) (s.gr ga) ey fun Wb vb kb gb db => ?_
        have s2 := (s.gr ga).gr gb
        have u2 := (u.gr ga).gr gb
        obtain ⟨z, hx, l, us, rfl, a1, a2, a3, a4, a5⟩ := s2.at hc
        refine ⟨_, hx, by show 3 ≤ sizeLine; decide, fun p hp => ?_⟩
        have npl : p ≠ l := fun z => by rw [z, a1] at hp; cases hp
        have nw : W0.H p = none := u2.h.free hp
        refine q ⟨upd Wb.H p (.lst ([va, vb] ++ [.ref l])), Wb.F, Wb.F⟩ p l [va, vb] us ⟨Same.refl _, kb.fh.trans (same_upd hp), fun _ _ e _ => e⟩ ⟨u2.h.trans (same_upd hp), u2.f, u2.fo⟩ (ga.f.trans gb.f) upd_same ((upd_ne (Ne.symm npl)).trans a1) nw a4 npl (kb.nF hp) a3 (.cons (da.up gb.f) (.cons db .nil)) a5
      · cases e
    · cases e
  · cases e
/-- what such a def promises -/
def spM (K : PySem.W.Frag) (m : List D → Option (List D × List D)) : Sp := fun vs H Q _ => ∃ (F : Hp) (ds as es : List D), Same F H ∧ DenL K F vs ds ∧ m ds = some (as, es) ∧
  ∀ H' F' p l xs us, Same H H' → Same F F' → Same F' H' → (∀ a o, H a = some o → F' a = F a) → H p = none → H l = none → p ≠ l → H' p = some (.lst (xs ++ [.ref l])) → H' l = some (.lst us) → F' p = none → F' l = none → DenL K F' xs as → DenL K F' us es → Q (.ref p) H'
def mmOf (n nn : Nat) (g : GM) : List D → Option (List D × List D) := fun ds => if ds.length = n then g (envOf nn ds) else none
theorem mmOf_len {n nn : Nat} {g : GM} {ds : List D} {r : List D × List D} (h : mmOf n nn g ds = some r) : ds.length = n ∧ g (envOf nn ds) = some r := by
  unfold mmOf at h
  split at h
  · exact ⟨by assumption, h⟩
  · cases h
theorem spM_len {m : List D → Option (List D × List D)} {n : Nat} (hm : ∀ ds r, m ds = some r → ds.length = n) : ∀ vs H Q E, spM K m vs H Q E → vs.length = n := by
  rintro vs H Q E' ⟨F, ds, as, es, hF, hd, e, _⟩
  rw [hd.length]
  exact hm ds _ e
theorem run_defM {N : List Str} {n nn : Nat} {ts : TS} {g : GM} {vs : List V} {H : Hp} {Q : VK} (hN : N.length = nn) (hv : ∀ W0, VM K W0 ts g) (h : spM K (mmOf n nn g) vs H Q E) : ts { nx := fun _ H' => Q .non H', rt := Q } (L2.start N vs) H := by
  obtain ⟨F, ds, as, es, hF, hd, e, q⟩ := h
  obtain ⟨hl, e⟩ := mmOf_len e
  subst hN
  refine hv ⟨H, F, F⟩ ⟨H, F, F⟩ (L2.start N vs) (envOf N.length ds) _ as es ⟨Same.refl _, hF, fun _ _ e _ => e⟩ ⟨Same.refl _, Same.refl _, fun _ _ _ => rfl⟩ (sd_start hd) e ?_
  intro W p l xs us k u f a1 a2 a3 a4 a5 a6 a7 a8 a9
  exact q W.H W.F p l xs us u.h f k.fh u.fo a3 a4 a5 a1 a2 a6 a7 a8 a9
/-! the caller -/
abbrev GX := List D → List D → GS
def VX (K : PySem.W.Frag) (W0 : Wd) (E : XK) (i : Nat) (ts : TS) (g : GX) : Prop :=
  ∀ (W : Wd) (σ : L2.St) (c : Env) (D : Ends) (ds es : List VL.D) (p l : Addr) (vs us : List V), WOk W → Up W0 W → SD K W0 W σ c → σ[i]? = some (some (.ref p)) → W.H p = some (.lst (vs ++ [.ref l])) → W.H l = some (.lst us) →
    W.G p = none → W.G l = none → W0.H p = none → W0.H l = none → p ≠ l → DenL K W.F vs ds → DenL K W.F us es → Post K E W0 W.F D (g ds es c) → ts D σ W.H
def gMx (i : Nat) (m : List D → Option (List D × List D)) (ga : GA) (g : GX) : GS := fun c => match ga c with
  | some ds => match m ds with
    | some (as, es) => if i < c.length then g as es (c.set i none) else none
    | none => none
  | none => none
theorem vs_mx {i : Nat} {m : List D → Option (List D × List D)} {ts : TA} {ga : GA} {rest : TS} {g : GX} {E' : XK} (h : VArg K W0 true ts ga) (hx : VX K W0 E i rest g) :
    VS K W0 E (tSeq (tAsg (tCall (spM K m) [] E' ts) (gName i)) rest) (gMx i m ga g) := by
  intro W σ c D k u s q
  unfold gMx at q
  cases e : ga c with
  | none => rw [e] at q; exact q.elim
  | some ds =>
    simp only [e] at q
    refine h W σ c ds _ k u s e fun W1 vs k1 g1 d1 => ?_
    rw [List.append_nil]
    cases hm : m ds with
    | none => simp only [hm] at q; exact q.elim
    | some r =>
      obtain ⟨as, es⟩ := r
      simp only [hm] at q
      by_cases hi : i < c.length
      · rw [if_pos hi] at q
        refine ⟨W1.F, ds, as, es, k1.fh, d1, hm, fun H' F' p l xs us a1 a2 a3 a4 a5 a6 a7 a8 a9 b1 b2 b3 b4 => ?_⟩
        obtain ⟨k2, g2, f2⟩ := aft_ok (b := true) k1 a1 a2 a3 a4
        have Gp : ∀ a, W1.H a = none → F' a = none → (W1.aft true H' F').G a = none := fun a z y => by
          show (match W1.H a with | some _ => W1.G a | none => F' a) = none
          rw [z]; exact y
        refine hx (W1.aft true H' F') (σ.set i (some (.ref p))) (c.set i none) D as es p l xs us k2 ((u.gr g1).gr g2) (sd_set ((s.gr g1).gr g2) i _ none trivial fun l h => (noHold_none h).elim)
          (List.getElem?_set_self (by rw [s.len]; exact hi)) a8 a9 (Gp p a5 b1) (Gp l a6 b2) ((u.gr g1).h.free a5) ((u.gr g1).h.free a6) a7 (b3.up f2) (b4.up f2) (q.mono (g1.f.trans g2.f))
      · rw [if_neg hi] at q; exact q.elim
/-- a statement between: name j = a settled value -/
def gXAsg (i j : Nat) (ga : GE) (g : GX) : GX := fun ds es c => match ga c with
  | some d => if i = j then none else g ds es (c.set j (some (.fz d)))
  | none => none
theorem vx_asg {i j : Nat} {te : TE} {ga : GE} {rest : TS} {g : GX} (h : VT K W0 true te ga) (hx : VX K W0 E i rest g) : VX K W0 E i (tSeq (tAsg te (gName j)) rest) (gXAsg i j ga g) := by
  intro W σ c D ds es p l vs us k u s hσ a1 a2 a3 a4 a5 a6 a7 a8 a9 q
  unfold gXAsg at q
  cases e : ga c with
  | none => rw [e] at q; exact q.elim
  | some d =>
    simp only [e] at q
    by_cases hij : i = j
    · rw [if_pos hij] at q; exact q.elim
    · rw [if_neg hij] at q
      refine h W σ c d _ k u s e fun W1 v k1 g1 d1 => ?_
      exact hx W1 _ _ D ds es p l vs us k1 (u.gr g1) (sd_fz (s.gr g1) j d1) ((List.getElem?_set_ne (Ne.symm hij)).trans hσ) (g1.h _ _ a1) (g1.h _ _ a2) ((g1.go _ _ a1).trans a3) ((g1.go _ _ a2).trans a4) a5 a6 a7 (a8.up g1.f) (a9.up g1.f) (q.mono g1.f)
/-- .. and all is settled -/
def gXDone (i : Nat) (g : GS) : GX := fun ds es c => g (c.set i (some (.fz (.lst (ds ++ [.lst es])))))
def Wd.mx (W : Wd) (p l : Addr) (o u : HO) : Wd := ⟨W.H, upd (upd W.G p o) l u, upd (upd W.F p o) l u⟩
theorem mx_ok {W : Wd} {σ : L2.St} {c : Env} {i : Nat} {p l : Addr} {vs us : List V} {ds es : List D} (k : WOk W) (u : Up W0 W) (s : SD K W0 W σ c) (hσ : σ[i]? = some (some (.ref p))) (a1 : W.H p = some (.lst (vs ++ [.ref l]))) (a2 : W.H l = some (.lst us)) (a3 : W.G p = none) (a4 : W.G l = none) (a5 : W0.H p = none) (a6 : W0.H l = none) (a7 : p ≠ l) (a8 : DenL K W.F vs ds) (a9 : DenL K W.F us es) :
    WOk (W.mx p l (.lst (vs ++ [.ref l])) (.lst us)) ∧ Up W0 (W.mx p l (.lst (vs ++ [.ref l])) (.lst us)) ∧ Same W.F (W.mx p l (.lst (vs ++ [.ref l])) (.lst us)).F ∧ SD K W0 (W.mx p l (.lst (vs ++ [.ref l])) (.lst us)) σ (c.set i (some (.fz (.lst (ds ++ [.lst es]))))) := by
  have Fp : W.F p = none := k.fg.free a3
  have Fl : W.F l = none := k.fg.free a4
  have Fl2 : upd W.F p (.lst (vs ++ [.ref l])) l = none := (upd_ne (Ne.symm a7)).trans Fl
  have ff : Same W.F (upd (upd W.F p (.lst (vs ++ [.ref l]))) l (.lst us)) := (same_upd Fp).trans (same_upd Fl2)
  have Gne : ∀ a o, W.G a = some o → a ≠ p ∧ a ≠ l := fun a o z => ⟨ne_of_none z a3, ne_of_none z a4⟩
  have Hne : ∀ a o, W0.H a = some o → a ≠ p ∧ a ≠ l := fun a o z => ⟨ne_of_none z a5, ne_of_none z a6⟩
  have sH : ∀ a, a ≠ p → a ≠ l → ∀ (X : Hp), upd (upd X p (.lst (vs ++ [.ref l]))) l (.lst us) a = X a := fun a n1 n2 X => (upd_ne n2).trans (upd_ne n1)
  refine ⟨⟨same_upd2 (same_upd2 k.fg), fun a o z => ?_, fun a xs z ht => by
    have z' : upd (upd W.G p (.lst (vs ++ [.ref l]))) l (.lst us) a = some xs := z
    by_cases hl : a = l
    · subst hl; rw [upd_same] at z'; cases z'; cases ht
    · rw [upd_ne hl] at z'
      by_cases hp : a = p
      · subst hp; rw [upd_same] at z'; cases z'; cases ht
      · rw [upd_ne hp] at z'
        exact (sH a hp hl W.F).trans (k.gt a xs z' ht)⟩, ⟨u.h, u.f.trans ff, fun a o z => ?_⟩, ff, ?_⟩
  · have z' : upd (upd W.G p (.lst (vs ++ [.ref l]))) l (.lst us) a = some o := z
    by_cases hl : a = l
    · subst hl; rw [upd_same] at z'; cases z'; exact a2
    · rw [upd_ne hl] at z'
      by_cases hp : a = p
      · subst hp; rw [upd_same] at z'; cases z'; exact a1
      · rw [upd_ne hp] at z'; exact k.gh a o z'
  · obtain ⟨n1, n2⟩ := Hne a o z
    exact (sH a n1 n2 W.F).trans (u.fo a o z)
  · have s1 : SD K W0 (W.mx p l (.lst (vs ++ [.ref l])) (.lst us)) σ c := by
      refine ⟨s.len, fun j x y h1 h2 => ?_, s.one⟩
      have okc := s.ok j x y h1 h2
      cases y with
      | none => trivial
      | some cl =>
        cases cl with
        | fz d => obtain ⟨v, e1, e2⟩ := okc; exact ⟨v, e1, e2.up ff⟩
        | own es' =>
          obtain ⟨l2, us2, e1, e2, e3, e4, e5, e6⟩ := okc
          obtain ⟨n1, n2⟩ := Gne _ _ e3
          exact ⟨l2, us2, e1, e2, (sH _ n1 n2 W.G).trans e3, (sH _ n1 n2 W.F).trans e4, e5, e6.up ff⟩
        | exc C ns es' =>
          obtain ⟨fs, e1, e2, e3, e4⟩ := okc
          exact ⟨fs, e1, e2, e3, e4.up ff⟩
        | slf C ns es' =>
          obtain ⟨fs, e1, e2, e3, e4, e5, e6, e7⟩ := okc
          have n1 : W0.sa ≠ p := ne_of e2 a1 (by intro z; cases z)
          have n2 : W0.sa ≠ l := ne_of e2 a2 (by intro z; cases z)
          exact ⟨fs, e1, e2, (sH _ n1 n2 W.G).trans e3, (sH _ n1 n2 W.F).trans e4, e5, e6, e7.up ff⟩
    have hi : i < σ.length := (List.getElem?_eq_some_iff.mp hσ).1
    have eσ : σ.set i (some (.ref p)) = σ := by
      apply List.ext_getElem?
      intro j
      by_cases hij : i = j
      · subst hij; rw [List.getElem?_set_self hi]; exact hσ.symm
      · rw [List.getElem?_set_ne hij]
    have den : Den K (upd (upd W.F p (.lst (vs ++ [.ref l]))) l (.lst us)) (.ref p) (.lst (ds ++ [.lst es])) :=
      .lst (by rw [upd_ne a7, upd_same]) ((a8.up ff).append (.cons (.lst upd_same (a9.up ff)) .nil))
    have := sd_fz (W := W.mx p l (.lst (vs ++ [.ref l])) (.lst us)) s1 i den
    rw [eσ] at this
    exact this
theorem vx_done {i : Nat} {rest : TS} {g : GS} (h : VS K W0 E rest g) : VX K W0 E i rest (gXDone i g) := by
  intro W σ c D ds es p l vs us k u s hσ a1 a2 a3 a4 a5 a6 a7 a8 a9 q
  obtain ⟨k2, u2, f2, s2⟩ := mx_ok k u s hσ a1 a2 a3 a4 a5 a6 a7 a8 a9
  exact h (W.mx p l (.lst (vs ++ [.ref l])) (.lst us)) σ _ D k2 u2 s2 (q.mono f2)
/-- an int is read, all looked at as settled, and forgotten again -/
theorem vx_int {W : Wd} {σ : L2.St} {c : Env} {i : Nat} {p l : Addr} {vs us : List V} {ds es : List D} {te : TE} {ga : GE} {n : Int} {Q : VK} (h : VT K W0 b te ga) (k : WOk W) (u : Up W0 W) (s : SD K W0 W σ c) (hσ : σ[i]? = some (some (.ref p))) (a1 : W.H p = some (.lst (vs ++ [.ref l]))) (a2 : W.H l = some (.lst us)) (a3 : W.G p = none) (a4 : W.G l = none) (a5 : W0.H p = none) (a6 : W0.H l = none) (a7 : p ≠ l) (a8 : DenL K W.F vs ds) (a9 : DenL K W.F us es)
    (e : ga (c.set i (some (.fz (.lst (ds ++ [.lst es]))))) = some (.int n)) (q : ∀ W', WOk W' → Gr W W' → Q (.int n) W'.H) : te σ W.H Q := by
  obtain ⟨k2, u2, f2, s2⟩ := mx_ok k u s hσ a1 a2 a3 a4 a5 a6 a7 a8 a9
  refine h (W.mx p l (.lst (vs ++ [.ref l])) (.lst us)) σ _ _ _ k2 u2 s2 e fun W' v k' g' hd => ?_
  cases hd
  let cut : Hp → Hp := fun X a => if a = p ∨ a = l then none else X a
  have cutS : ∀ X Y : Hp, Same X Y → Same (cut X) (cut Y) := fun X Y z a o y => by
    have y' : (if a = p ∨ a = l then none else X a) = some o := y
    show (if a = p ∨ a = l then none else Y a) = some o
    split at y'
    · cases y'
    · rename_i hn; rw [if_neg hn]; exact z a o y'
  have cutL : ∀ X : Hp, Same (cut X) X := fun X a o y => by
    have y' : (if a = p ∨ a = l then none else X a) = some o := y
    split at y'
    · cases y'
    · exact y'
  have inC : ∀ (X : Hp) a, a ≠ p → a ≠ l → cut X a = X a := fun X a n1 n2 => if_neg (fun z => z.elim n1 n2)
  have Fp : W.F p = none := k.fg.free a3
  have Fl : W.F l = none := k.fg.free a4
  have sH : ∀ a, a ≠ p → a ≠ l → ∀ (X : Hp), upd (upd X p (.lst (vs ++ [.ref l]))) l (.lst us) a = X a := fun a n1 n2 X => (upd_ne n2).trans (upd_ne n1)
  refine q ⟨W'.H, cut W'.G, cut W'.F⟩ ⟨cutS _ _ k'.fg, (cutL _).trans k'.gh, fun a xs z ht => by
      have z' : (if a = p ∨ a = l then none else W'.G a) = some xs := z
      show (if a = p ∨ a = l then none else W'.F a) = _
      split at z'
      · cases z'
      · rename_i hn; rw [if_neg hn]; exact k'.gt a xs z' ht⟩ ⟨g'.h, fun a o z => ?_, fun a o z => ?_, fun a o z => ?_, fun a o z => ?_⟩
  · have n1 := ne_of_none z a3; have n2 := ne_of_none z a4
    show cut W'.G a = some o
    rw [inC _ _ n1 n2]; exact g'.g a o ((sH a n1 n2 W.G).trans z)
  · have n1 := ne_of_none z Fp; have n2 := ne_of_none z Fl
    show cut W'.F a = some o
    rw [inC _ _ n1 n2]; exact g'.f a o ((sH a n1 n2 W.F).trans z)
  · show cut W'.G a = W.G a
    by_cases n1 : a = p
    · rw [n1, a3]; exact if_pos (.inl rfl)
    by_cases n2 : a = l
    · rw [n2, a4]; exact if_pos (.inr rfl)
    rw [inC _ _ n1 n2]; exact (g'.go a o z).trans (sH a n1 n2 W.G)
  · show cut W'.F a = W.F a
    by_cases n1 : a = p
    · rw [n1, Fp]; exact if_pos (.inl rfl)
    by_cases n2 : a = l
    · rw [n2, Fl]; exact if_pos (.inr rfl)
    rw [inC _ _ n1 n2]; exact (g'.fo a o z).trans (sH a n1 n2 W.F)
/-- if t: x[k].append(x[k][e]), k tells the last item -/
def gXApp (i : Nat) (k : Int) (tst : GB) (ge : GE) (g : GX) : GX := fun ds es c => match tst c with
  | some false => g ds es c
  | some true => if k = ds.length then match ge (c.set i (some (.fz (.lst (ds ++ [.lst es]))))) with
    | some (.int n) => match atI es n with
      | some d => if es.length < sizeLine then g ds (es ++ [d]) c else none
      | none => none
    | _ => none
    else none
  | none => none
theorem atI_last {α : Type} {xs : List α} {x : α} {k : Int} (h : k = xs.length) : atI (xs ++ [x]) k = some x := by
  subst h
  unfold atI ixN
  have h1 : ¬ ((xs.length : Int) < 0) := by omega
  have h2 : (xs.length : Int) < ((xs ++ [x]).length : Nat) := by simp; omega
  simp
  rw [if_pos (by omega)]
  simp
theorem vx_app {i : Nat} {kk : Int} {tt : TT} {tst : GB} {te : TE} {ge : GE} {rest : TS} {g : GX} (ht : VB K W0 tt tst) (he : VT K W0 b te ge) (hx : VX K W0 E i rest g) :
    VX K W0 E i (tSeq (tIfS tt (tDrop (tBM K "list" rAppend (tOp (rIx K) (tVar i) (tC (.int kk))) (tCons (tOp (rIx K) (tOp (rIx K) (tVar i) (tC (.int kk))) te) tNil))) tNext) rest) (gXApp i kk tst ge g) := by
  intro W σ c D ds es p l vs us k u s hσ a1 a2 a3 a4 a5 a6 a7 a8 a9 q
  unfold gXApp at q
  cases e : tst c with
  | none => rw [e] at q; exact q.elim
  | some t =>
    refine ht W σ c t _ k u s e fun W1 k1 g1 => ?_
    have c1 : W1.H p = some (.lst (vs ++ [.ref l])) := g1.h _ _ a1
    have c2 : W1.H l = some (.lst us) := g1.h _ _ a2
    have c3 : W1.G p = none := (g1.go _ _ a1).trans a3
    have c4 : W1.G l = none := (g1.go _ _ a2).trans a4
    have c8 := a8.up g1.f
    have c9 := a9.up g1.f
    cases t with
    | false =>
      rw [if_neg Bool.false_ne_true]
      simp only [e] at q
      exact hx W1 σ c D ds es p l vs us k1 (u.gr g1) (s.gr g1) hσ c1 c2 c3 c4 a5 a6 a7 c8 c9 (q.mono g1.f)
    | true =>
      rw [if_pos rfl]
      simp only [e] at q
      by_cases hk : kk = ds.length
      · rw [if_pos hk] at q
        have hk' : kk = vs.length := by rw [a8.length]; exact hk
        split at q
        · rename_i n hn
          cases e3 : atI es n with
          | none => simp only [e3] at q; exact q.elim
          | some d =>
            simp only [e3] at q
            by_cases hz : es.length < sizeLine
            · rw [if_pos hz] at q
              refine ⟨_, hσ, .inl ⟨p, _, kk, _, rfl, rfl, SqL.of c1, atI_last hk', .inl ⟨rfl, _, SqL.of c2⟩, _, hσ, .inl ⟨p, _, kk, _, rfl, rfl, SqL.of c1, atI_last hk', ?_⟩⟩⟩
              refine vx_int he k1 (u.gr g1) (s.gr g1) hσ c1 c2 c3 c4 a5 a6 a7 c8 c9 hn fun W2 k2 g2 => ?_
              have c92 := c9.up g2.f
              obtain ⟨v, hv, dv⟩ := denL_atI c92 e3
              refine .inl ⟨l, us, n, v, rfl, rfl, SqL.of (g2.h _ _ c2), hv, ?_⟩
              refine ⟨l, us, v, rfl, rfl, g2.h _ _ c2, by rw [c92.length]; exact hz, ?_⟩
              have G2l : W2.G l = none := (g2.go _ _ c2).trans c4
              have G2p : W2.G p = none := (g2.go _ _ c1).trans c3
              have neG : ∀ a o, W2.G a = some o → a ≠ l := fun a o z => ne_of_none z G2l
              have u2 := (u.gr g1).gr g2
              have s2 := (s.gr g1).gr g2
              refine hx ⟨upd W2.H l (.lst (us ++ [v])), W2.G, W2.F⟩ σ c D ds (es ++ [d]) p l vs (us ++ [v]) ⟨k2.fg, fun a o z => (upd_ne (neG a o z)).trans (k2.gh a o z), k2.gt⟩ ⟨fun a o z => (upd_ne (ne_of_none z a6)).trans (u2.h a o z), u2.f, u2.fo⟩ ?_ hσ ((upd_ne a7).trans (g2.h _ _ c1)) upd_same G2p G2l a5 a6 a7 (c8.up g2.f) (c92.append (.cons dv .nil)) (q.mono (g1.f.trans g2.f))
              refine ⟨s2.len, fun j x y h1 h2 => ?_, s2.one⟩
              have okc := s2.ok j x y h1 h2
              cases y with
              | none => trivial
              | some cl =>
                cases cl with
                | fz d => exact okc
                | own es' =>
                  obtain ⟨l2, us2, e1, e2, e3, e4, e5, e6⟩ := okc
                  exact ⟨l2, us2, e1, (upd_ne (neG _ _ e3)).trans e2, e3, e4, e5, e6⟩
                | exc C ns es' =>
                  obtain ⟨fs, e1, e2, e3, e4⟩ := okc
                  exact ⟨fs, e1, (upd_ne (ne_of e2 (g2.h _ _ c2) (by intro z; cases z))).trans e2, e3, e4⟩
                | slf C ns es' =>
                  obtain ⟨fs, e1, e2, e3, e4, e5, e6, e7⟩ := okc
                  exact ⟨fs, e1, (upd_ne (ne_of e2 (g2.h _ _ c2) (by intro z; cases z))).trans e2, e3, e4, e5, e6, e7⟩
            · rw [if_neg hz] at q; exact q.elim
        · exact q.elim
      · rw [if_neg hk] at q; exact q.elim
/-- a + b of lists: a new list -/
def gCat (ga gb : GE) : GA := fun c => match ga c with
  | some (.lst a) => match gb c with
    | some (.lst b) => if a.length + b.length ≤ sizeLine then some (a ++ b) else none
    | _ => none
  | _ => none
theorem vn_cat {ta tb : TE} {ga gb : GE} (h1 : VT K W0 true ta ga) (h2 : VT K W0 true tb gb) : VN K W0 (tOp (rAddU K) ta tb) (gCat ga gb) := by
  intro W σ c ds Q k u s e q
  unfold gCat at e
  split at e
  · rename_i a ha
    split at e
    · rename_i b hb
      split at e
      · rename_i hz
        cases e
        refine h1 W σ c _ _ k u s ha fun W1 v1 k1 g1 d1 => ?_
        refine h2 W1 σ c _ _ k1 (u.gr g1) (s.gr g1) hb fun W2 v2 k2 g2 d2 => ?_
        cases d1 with
        | lst e1 e2 =>
          cases d2 with
          | lst e3 e4 =>
            refine .inr (.inr (.inl ⟨_, _, _, _, rfl, rfl, k2.fh _ _ (g2.f _ _ e1), k2.fh _ _ e3, by rw [e2.length, e4.length]; exact hz, fun p hp => ?_⟩))
            exact q W2 p _ k2 (g1.trans g2) hp ((e2.up g2.f).append e4)
      · cases e
    · cases e
  · cases e
theorem exm_same {K : PySem.W.Frag} {C : Addr} (e : PySem.W.subIn K (.ref C) (.type "BaseException") = some true) (i : PySem.W.isClsIn K C = true) (t : PySem.W.typeIn K (.ref C) = some (.type "type")) (s : PySem.W.subIn K (.ref C) (.ref C) = some true) : PySem.W.exmOne K (.ref C) (.ref C) = some true := by
  have i' : (PySem.W.clsIn K C).isSome = true := i
  unfold PySem.W.exmOne
  rw [e]
  refine (if_pos (by simp)).trans ?_
  unfold PySem.W.kitCls
  simp [i', t, s]
end
end VL
end

section
/-! VY: values that cannot change; str, join, count; raising calls inside expressions; try. -/
namespace VL
open PySem PySem.Spec PyProof.Rows L2
/-! ### what cannot change is settled -/
mutual
def D.imm : D → Bool
  | .non => true | .bl _ => true | .int _ => true | .str _ => true
  | .tup ds => D.immL ds
  | .lst _ => false | .scr _ => false | .ins _ _ _ => false
def D.immL : List D → Bool
  | [] => true
  | d :: ds => D.imm d && D.immL ds
end
section
variable {K : PySem.W.Frag} {W0 W : Wd} {E : XK} {b b' b1 b2 : Bool}
theorem sqT_imm (k : WOk W) {a : Addr} {xs : List V} (h : SqT K W.G a xs) : SqT K W.F a xs := by
  rcases h with (h | ⟨o, h⟩) | h
  · exact .inl (.inl (k.gt _ _ h rfl))
  · exact .inl (.inr ⟨o, k.gt _ _ h rfl⟩)
  · exact .inr h
mutual
theorem den_imm (k : WOk W) : ∀ (d : D) (v : V), D.imm d = true → Den K W.G v d → Den K W.F v d
  | .non, _, _, h => by cases h; exact .non
  | .bl b, _, _, h => by cases h; exact .bl b
  | .int i, _, _, h => by cases h; exact .int i
  | .str x, _, _, h => by cases h; exact .str x
  | .tup ds, _, e, h => by
    cases h with
    | tup h1 h2 => exact .tup (sqT_imm k h1) (denL_imm k ds _ (by simpa [D.imm] using e) h2)
  | .lst _, _, e, _ => by simp [D.imm] at e
  | .scr _, _, e, _ => by simp [D.imm] at e
  | .ins _ _ _, _, e, _ => by simp [D.imm] at e
theorem denL_imm (k : WOk W) : ∀ (ds : List D) (vs : List V), D.immL ds = true → DenL K W.G vs ds → DenL K W.F vs ds
  | [], _, _, h => by cases h; exact .nil
  | d :: ds, _, e, h => by
    simp only [D.immL, Bool.and_eq_true] at e
    cases h with
    | cons h1 h2 => exact .cons (den_imm k d _ e.1 h1) (denL_imm k ds _ e.2 h2)
end
def gImm (g : GE) : GE := fun c => match g c with
  | some d => if d.imm = true then some d else none
  | none => none
theorem vt_imm {te : TE} {g : GE} (h : VT K W0 b' te g) : VT K W0 b te (gImm g) := by
  intro W σ c d Q k u s e q
  unfold gImm at e
  split at e
  · rename_i x hx
    split at e
    · rename_i hi
      cases e
      refine h W σ c _ Q k u s hx fun W' v k' g' hd => q W' v k' g' ?_
      have hF : Den K W'.F v d := den_imm k' d v hi (hd.up (by cases b'; exact Same.refl _; exact k'.fg))
      exact hF.up (by cases b; exact k'.fg; exact Same.refl _)
    · cases e
  · cases e
/-! ### str(x), x an int or a text -/
def rStrU : List V → Hp → VK → Prop := fun xs H Q => (∃ i, xs = [.int i] ∧ i.natAbs.log2 < 1920 ∧ Q (.str (toString i)) H) ∨ ∃ a, xs = [.str a] ∧ Q (.str a) H
theorem call_strU {X : Cx} : CallR X (.type "str") rStrU := by
  intro pins s σ H xs us Q I r h
  rcases h with h | h
  · exact call_str_int pins s σ H xs us Q I r h
  · exact _root_.SkE.call_str_str pins s σ H xs us Q I r h
def fStr : List D → Option D
  | [.int i] => if i.natAbs.log2 < 1920 then some (.str (toString i)) else none
  | [.str a] => some (.str a)
  | _ => none
theorem rcs_str : RCS K rStrU fStr := by
  intro W xs ds z Q k hd hf q
  unfold fStr at hf
  split at hf
  · split at hf
    · rename_i hz
      cases hf
      cases hd with
      | cons h1 h2 => cases h1; cases h2; exact .inl ⟨_, rfl, hz, q _ fun H => .str _⟩
    · cases hf
  · cases hf
    cases hd with
    | cons h1 h2 => cases h1; cases h2; exact .inr ⟨_, rfl, q _ fun H => .str _⟩
  · cases hf
/-! ### a.join(x) -/
def rJoinU (K : PySem.W.Frag) : V → List V → Hp → VK → Prop := fun x xs H Q => ∃ a p, ∃ ys : List Str, x = .str a ∧ xs = [.ref p] ∧ (SqL K H p (ys.map V.str) ∨ SqT K H p (ys.map V.str)) ∧
  (ys.map (·.length)).sum + ys.length * a.length ≤ 16777216 ∧ Q (.str (Txt.join a ys)) H
theorem pe_joinU {X : Cx} {o e : Expr} {to te : TE} {apos pos : Pos} (hK : X.K = K) (ho : PE X o to) (he : PE X e te) (hs : starEach [e] X.env = [(false, eval e X.env)] := by rfl) (hbase : attributeBase o "join" X.env (eval o X.env) = eval o X.env := by rfl) (hline : (apos.endLine == pos.line) = true := by rfl) :
    PE X (.Call (.Attribute o "join" apos) [e] [] pos) (tM1 (rJoinU K) to te) := by
  subst hK
  exact pe_join ho he hs hbase hline
def strsOf : List D → Option (List Str)
  | [] => some []
  | .str x :: ds => match strsOf ds with
    | some xs => some (x :: xs)
    | none => none
  | _ :: _ => none
theorem strsOf_map : ∀ {ds : List D} {xs : List Str}, strsOf ds = some xs → ds = xs.map D.str
  | [], xs, h => by cases h; rfl
  | d :: ds, xs, h => by
    unfold strsOf at h
    split at h
    · rename_i q; cases q
    · rename_i x es q
      cases q
      split at h
      · rename_i ys hy
        cases h
        rw [strsOf_map hy]; rfl
      · cases h
    · cases h
def dJoin : D → D → Option D
  | .str a, d => match d.items with
    | some ds => match strsOf ds with
      | some ys => if (ys.map (·.length)).sum + ys.length * a.length ≤ 16777216 then some (.str (Txt.join a ys)) else none
      | none => none
    | none => none
  | _, _ => none
theorem vt_join {to te : TE} {ga gb : GE} (h1 : VT K W0 b1 to ga) (h2 : VT K W0 b2 te gb) : VT K W0 b (tM1 (rJoinU K) to te) (g2 dJoin ga gb) := by
  intro W σ c d Q k u s e q
  obtain ⟨x, y, ex, ey, ef⟩ := g2_some e
  refine h1 W σ c x _ k u s ex fun W1 v1 k1 g1 d1 => ?_
  cases x with
  | str a =>
    cases d1
    refine ⟨⟨a, rfl⟩, h2 W1 σ c y _ k1 (u.gr g1) (s.gr g1) ey fun W2 v2 k2 g2 d2 => ?_⟩
    unfold dJoin at ef
    simp only at ef
    split at ef
    · rename_i ds hds
      split at ef
      · rename_i ys hys
        split at ef
        · rename_i hz
          cases ef
          obtain ⟨p, xs, rfl, hq, hdl⟩ := den_items (d2.up (k2.atH b2)) hds
          rw [strsOf_map hys] at hdl
          have := hdl.strs
          subst this
          exact ⟨a, p, ys, rfl, rfl, hq, hz, q W2 _ k2 (g1.trans g2) (.str _)⟩
        · cases ef
      · cases ef
    · cases ef
  | _ => cases ef
/-! ### x.count(e) of a list of flat values -/
def rCntU (K : PySem.W.Frag) : V → List V → Hp → VK → Prop := fun x xs H Q => ∃ (p : Addr) (ys : List V) (z : V), x = .ref p ∧ xs = [z] ∧ flatV z = true ∧ ys.all flatV = true ∧ SqL K H p ys ∧ Q (.int (ys.countP fun y => eqV y z : Nat)) H
def cntV (z : V) (u : Value) : Bool := match absV u with
  | some y => eqV y z
  | none => false
theorem cnt_rel {z y : V} {u : Value} (f : flatV y = true) (r : RelV y u) : cntV z u = eqV y z := by
  cases y with
  | non => cases r; rfl
  | bl b => cases r; rfl
  | int i => obtain ⟨t, rfl⟩ := r; rfl
  | str x => obtain ⟨t, rfl⟩ := r; rfl
  | _ => exact absurd (show false = true from f) Bool.false_ne_true
theorem cnt_all {z : V} : ∀ {us : List Value} {ys : List V}, ys.all flatV = true → Vals ys us → us.countP (cntV z) = ys.countP fun y => eqV y z
  | _, _, _, .nil => rfl
  | _, _, f, .cons r h => by
    rw [List.all_cons, Bool.and_eq_true] at f
    rw [List.countP_cons, List.countP_cons, cnt_all f.2 h, cnt_rel f.1 r]
theorem cnt_at {A : Around} {s : Shared} {z : V} {w : Value} (fz : flatV z = true) (rz : RelV z w) : ∀ {us : List Value} {ys : List V}, ys.all flatV = true → Vals ys us → ∀ u ∈ us, SeqAt.EqAt A s u w (cntV z u)
  | _, _, _, .nil => fun u hu => by cases hu
  | _, _, f, .cons r h => fun u hu => by
    rw [List.all_cons, Bool.and_eq_true] at f
    rcases List.mem_cons.mp hu with e | e
    · rw [e, cnt_rel f.1 r]
      exact eqAt_V r rz f.1 fz
    · exact cnt_at fz rz f.2 h u e
theorem mt_cntU {X : Cx} : MtR X "list.count" (rCntU X.K) := by
  intro pins s σ H x xs v us Q I rx rxs h
  obtain ⟨p, ys, z, rfl, rfl, fz, fy, hs, q⟩ := h
  cases rx
  obtain ⟨u, rfl, ru⟩ := rxs.one
  obtain ⟨its, rv, ⟨⟨cls, dd, data, sl⟩, n, ho, hc, hdn, hd⟩, hlen⟩ := I.list hs
  simp only at hc hd
  subst hc hd
  refine call_meets PySem.F.slot_list_count ⟨_, ho, rfl⟩ PySem.F.entry_list_count (PySem.F.args_list_count_2 _ _)
    (SeqAt.list_countAt p its.toArray n dd sl u (cntV z)) ⟨ho, fun y hy => cnt_at fz ru fy rv y (by simpa using hy), ?_⟩
  have ec : its.toArray.toList.countP (cntV z) = ys.countP fun y => eqV y z := cnt_all fy rv
  refine ⟨.int (ys.countP fun y => eqV y z : Nat), H, I.tok _, ⟨s.toks, ?_⟩, q⟩
  show Value.int ((its.toArray.toList.countP (cntV z) : Nat) : Int) s.toks = _
  rw [ec]
def dCnt (x z : D) : Option D := match x with
  | .lst ds => if z.scal = true ∧ ds.all D.scal = true then some (.int ((ds.map D.toV).countP fun y => eqV y z.toV : Nat)) else none
  | .scr ds => if z.scal = true ∧ ds.all D.scal = true then some (.int ((ds.map D.toV).countP fun y => eqV y z.toV : Nat)) else none
  | _ => none
theorem vt_cnt {to te : TE} {ga gb : GE} (h1 : VT K W0 b1 to ga) (h2 : VT K W0 b2 te gb) : VT K W0 b (tBM K "list" (rCntU K) to (tCons te tNil)) (g2 dCnt ga gb) := by
  intro W σ c d Q k u s e q
  obtain ⟨x, z, ex, ez, ef⟩ := g2_some e
  refine h1 W σ c x _ k u s ex fun W1 v1 k1 g1 d1 => ?_
  have fin : ∀ (a : Addr) (xs : List V) (ds : List D), v1 = .ref a → SqL K (W1.at b1) a xs → DenL K (W1.at b1) xs ds → (z.scal = true ∧ ds.all D.scal = true) → d = .int ((ds.map D.toV).countP fun y => eqV y z.toV : Nat) →
      (tyV K "list" v1 W1.H ∧ (tCons te tNil) σ W1.H fun xs H2 => rCntU K v1 xs H2 Q) := by
    rintro a xs ds rfl hq hd ⟨hz1, hz2⟩ rfl
    refine ⟨.inl ⟨rfl, xs, (k1.atH b1).seq hq⟩, h2 W1 σ c z _ k1 (u.gr g1) (s.gr g1) ez fun W2 v2 k2 g2 d2 => ?_⟩
    rw [den_scal d2 hz1]
    have hx := denL_scal hd hz2
    refine ⟨a, xs, z.toV, rfl, rfl, flat_toV z, by rw [hx]; exact flat_all ds, ((k1.atH b1).trans g2.h).seq hq, ?_⟩
    rw [hx]
    exact q W2 _ k2 (g1.trans g2) (.int _)
  unfold dCnt at ef
  split at ef
  · split at ef
    · rename_i hz
      cases ef
      cases d1 with
      | lst e1 e2 => exact fin _ _ _ rfl (SqL.of e1) e2 hz rfl
    · cases ef
  · split at ef
    · rename_i hz
      cases ef
      cases d1 with
      | scr e1 e2 => exact fin _ _ _ rfl e1 e2 hz rfl
    · cases ef
  · cases ef
/-! ### expressions that may raise -/
def XP (K : PySem.W.Frag) (W : Wd) (E : XK) (b : Bool) (Q : VK) : Option Res → Prop
  | none => False
  | some (.val d) => ∀ W' v, WOk W' → Gr W W' → Den K (W'.at b) v d → Q v W'.H
  | some (.exn C ns ds) => ∀ W' dx fs, WOk W' → Gr W W' → W'.H dx = some (.xd fs) → W.H dx = none → fs.map (·.1) = ns → DenL K W'.F (fs.map (·.2)) ds → E (.ref C) (some dx) W'.H
abbrev GR := Env → Option Res
def VTX (K : PySem.W.Frag) (W0 : Wd) (E : L2.St → XK) (b : Bool) (te : TE) (g : GR) : Prop :=
  ∀ (W : Wd) (σ : L2.St) (c : Env) (Q : VK), WOk W → Up W0 W → SD K W0 W σ c → XP K W (E σ) b Q (g c) → te σ W.H Q
def XPs (K : PySem.W.Frag) (W : Wd) (E : XK) (b : Bool) (Q : List V → Hp → Prop) : Option (List D ⊕ (Addr × List Str × List D)) → Prop
  | none => False
  | some (.inl ds) => ∀ W' vs, WOk W' → Gr W W' → DenL K (W'.at b) vs ds → Q vs W'.H
  | some (.inr (C, ns, ds)) => ∀ W' dx fs, WOk W' → Gr W W' → W'.H dx = some (.xd fs) → W.H dx = none → fs.map (·.1) = ns → DenL K W'.F (fs.map (·.2)) ds → E (.ref C) (some dx) W'.H
abbrev GRs := Env → Option (List D ⊕ (Addr × List Str × List D))
def VAX (K : PySem.W.Frag) (W0 : Wd) (E : L2.St → XK) (b : Bool) (ta : TA) (g : GRs) : Prop :=
  ∀ (W : Wd) (σ : L2.St) (c : Env) (Q : List V → Hp → Prop), WOk W → Up W0 W → SD K W0 W σ c → XPs K W (E σ) b Q (g c) → ta σ W.H Q
variable {Ex : L2.St → XK}
def gVal (g : GE) : GR := fun c => match g c with
  | some d => some (.val d)
  | none => none
theorem vtx_val {te : TE} {g : GE} (h : VT K W0 b te g) : VTX K W0 Ex b te (gVal g) := by
  intro W σ c Q k u s q
  unfold gVal at q
  cases e : g c with
  | none => rw [e] at q; exact q.elim
  | some d => rw [e] at q; exact h W σ c d Q k u s e q
def gCallR (m : List D → Option Res) (ga : GA) : GR := fun c => match ga c with
  | some ds => m ds
  | none => none
theorem vtx_res {m : List D → Option Res} {W1 : Wd} {vs : List V} {ds : List D} {Q : VK} {E' : XK} (k1 : WOk W1) (d1 : DenL K W1.F vs ds) (q : XP K W1 E' true Q (m ds)) : spP K m vs W1.H Q E' := by
  cases e2 : m ds with
  | none => rw [e2] at q; exact q.elim
  | some r =>
    rw [e2] at q
    cases r with
    | val d =>
      refine ⟨W1.F, ds, .val d, k1.fh, d1, e2, fun H' F' v a1 a2 a3 a4 a5 => ?_⟩
      obtain ⟨k2, g2, f2⟩ := aft_ok (b := true) k1 a1 a2 a3 a4
      exact q (W1.aft true H' F') v k2 g2 (a5.up f2)
    | exn C ns es =>
      refine ⟨W1.F, ds, .exn C ns es, k1.fh, d1, e2, fun H' F' dx fs a1 a2 a3 a4 a5 a6 a7 a8 => ?_⟩
      obtain ⟨k2, g2, f2⟩ := aft_ok (b := true) k1 a1 a2 a3 a4
      exact q (W1.aft true H' F') dx fs k2 g2 a6 a5 a7 (a8.up f2)
theorem xp_gr {W W1 : Wd} {E' : XK} {Q : VK} (g : Gr W W1) : ∀ {r : Option Res}, XP K W E' b Q r → XP K W1 E' b Q r
  | none, q => q
  | some (.val d), q => fun W' v k' g' hd => q W' v k' (g.trans g') hd
  | some (.exn C ns ds), q => fun W' dx fs k' g' h1 h2 => q W' dx fs k' (g.trans g') h1 (g.h.free h2)
theorem xps_gr {W W1 : Wd} {E' : XK} {Q : List V → Hp → Prop} (g : Gr W W1) : ∀ {r : Option (List D ⊕ (Addr × List Str × List D))}, XPs K W E' b Q r → XPs K W1 E' b Q r
  | none, q => q
  | some (.inl d), q => fun W' v k' g' hd => q W' v k' (g.trans g') hd
  | some (.inr (C, ns, ds)), q => fun W' dx fs k' g' h1 h2 => q W' dx fs k' (g.trans g') h1 (g.h.free h2)
theorem vtx_call {m : List D → Option Res} {ts : TA} {ga : GA} (h : VArg K W0 true ts ga) : VTX K W0 (fun _ => E) true (tCall (spP K m) [] E ts) (gCallR m ga) := by
  intro W σ c Q k u s q
  unfold gCallR at q
  cases e : ga c with
  | none => rw [e] at q; exact q.elim
  | some ds =>
    rw [e] at q
    refine h W σ c ds _ k u s e fun W1 vs k1 g1 d1 => ?_
    rw [List.append_nil]
    exact vtx_res k1 d1 (xp_gr g1 q)
theorem vtx_callS {m : List D → Option Res} {ts : TA} {ga : GA} (h : VArg K W0 true ts ga) : VTX K W0 Ex true (tCallS (spP K m) Ex ts) (gCallR m ga) := by
  intro W σ c Q k u s q
  unfold gCallR at q
  cases e : ga c with
  | none => rw [e] at q; exact q.elim
  | some ds =>
    rw [e] at q
    exact h W σ c ds _ k u s e fun W1 vs k1 g1 d1 => vtx_res k1 d1 (xp_gr g1 q)
def gXNil : GRs := fun _ => some (.inl [])
def gXCons (g : GR) (gs : GRs) : GRs := fun c => match g c with
  | some (.val d) => match gs c with
    | some (.inl ds) => some (.inl (d :: ds))
    | r => r
  | some (.exn C ns ds) => some (.inr (C, ns, ds))
  | none => none
theorem vax_nil : VAX K W0 Ex b tNil gXNil := fun W σ c Q k u s q => q W [] k (Gr.refl W) .nil
theorem vax_cons {te : TE} {ts : TA} {g : GR} {gs : GRs} (h : VTX K W0 Ex b te g) (hs : VAX K W0 Ex b ts gs) : VAX K W0 Ex b (tCons te ts) (gXCons g gs) := by
  intro W σ c Q k u s q
  refine h W σ c _ k u s ?_
  unfold gXCons at q
  cases e : g c with
  | none => rw [e] at q; exact q.elim
  | some r =>
    rw [e] at q
    cases r with
    | exn C ns ds => exact q
    | val d =>
      intro W1 v k1 g1 d1
      refine hs W1 σ c _ k1 (u.gr g1) (s.gr g1) ?_
      simp only at q
      cases e2 : gs c with
      | none => rw [e2] at q; exact q.elim
      | some r2 =>
        rw [e2] at q
        cases r2 with
        | inl ds => exact fun W2 vs k2 g2 d2 => q W2 (v :: vs) k2 (g1.trans g2) (.cons (d1.up (g2.at b)) d2)
        | inr z =>
          obtain ⟨C, ns, ds⟩ := z
          exact fun W2 dx fs k2 g2 h1 h2 => q W2 dx fs k2 (g1.trans g2) h1 (g1.h.free h2)
def gXTup (gs : GRs) : GR := fun c => match gs c with
  | some (.inl ds) => if ds.length ≤ sizeLine then some (.val (.tup ds)) else none
  | some (.inr (C, ns, ds)) => some (.exn C ns ds)
  | none => none
theorem vtx_tup {ts : TA} {gs : GRs} (h : VAX K W0 Ex b ts gs) : VTX K W0 Ex b (tTup ts) (gXTup gs) := by
  intro W σ c Q k u s q
  refine h W σ c _ k u s ?_
  unfold gXTup at q
  cases e : gs c with
  | none => rw [e] at q; exact q.elim
  | some r =>
    rw [e] at q
    cases r with
    | inr z => obtain ⟨C, ns, ds⟩ := z; exact q
    | inl ds =>
      simp only at q
      by_cases hz : ds.length ≤ sizeLine
      · rw [if_pos hz] at q
        intro W1 vs k1 g1 d1
        refine ⟨by rw [d1.length]; exact hz, fun p hp => ?_⟩
        exact q (W1.new b p (.tup vs)) _ (new_ok k1 hp) (g1.trans (new_gr k1 hp)) (.tup (SqT.of new_self) (new_denL k1 hp d1))
      · rw [if_neg hz] at q; exact q.elim
/-- an operation whose left side may raise -/
def gX2 (f : D → D → Option D) (ga : GR) (gb : GE) : GR := fun c => match ga c with
  | some (.val x) => match gb c with
    | some y => match f x y with
      | some z => some (.val z)
      | none => none
    | none => none
  | r => r
theorem vtx_op {r : R2} {f : D → D → Option D} {ta tb : TE} {ga : GR} {gb : GE} (hr : RO K r f) (ha : VTX K W0 Ex b ta ga) (hb : VT K W0 b tb gb) : VTX K W0 Ex b (tOp r ta tb) (gX2 f ga gb) := by
  intro W σ c Q k u s q
  refine ha W σ c _ k u s ?_
  unfold gX2 at q
  cases e : ga c with
  | none => rw [e] at q; exact q.elim
  | some o =>
    rw [e] at q
    cases o with
    | exn C ns ds => exact q
    | val x =>
      simp only at q
      cases e2 : gb c with
      | none => rw [e2] at q; exact q.elim
      | some y =>
        simp only [e2] at q
        cases e3 : f x y with
        | none => rw [e3] at q; exact q.elim
        | some z =>
          simp only [e3] at q
          intro W1 v1 k1 g1 d1
          refine hb W1 σ c y _ k1 (u.gr g1) (s.gr g1) e2 fun W2 v2 k2 g2 d2 => ?_
          exact hr b W2 v1 v2 x y z Q k2 (d1.up (g2.at b)) d2 e3 fun W3 v3 k3 g3 d3 => q W3 v3 k3 (g1.trans (g2.trans g3)) d3
/-! statements of a def that may raise -/
def gRetX (g : GR) : GS := fun c => match g (frzAll c) with
  | some (.val d) => some (.ret d)
  | some (.exn C ns ds) => some (.ex C ns ds)
  | none => none
theorem vs_retX {te : TE} {g : GR} (h : VTX K W0 (fun _ => E) true te g) : VS K W0 E (tRet te) (gRetX g) := by
  intro W σ c D k u s q
  obtain ⟨W', e, k', u', f', s'⟩ := sd_frz (c' := frzAll c) k u s (by simp [frzAll]) (fun i y hy => .inr (by simp [frzAll, hy]))
  show te σ W.H D.rt
  rw [← e]
  refine h W' σ _ _ k' u' s' ?_
  unfold gRetX at q
  cases hg : g (frzAll c) with
  | none => rw [hg] at q; exact q.elim
  | some r =>
    rw [hg] at q
    cases r with
    | val d => exact fun W2 v k2 g2 hd => q W2 v k2 (u'.gr g2) (f'.trans g2.f) hd
    | exn C ns ds => exact fun W2 dx fs k2 g2 h1 h2 h3 h4 => q W2 dx fs k2 (u'.gr g2) (f'.trans g2.f) h1 (u'.h.free h2) h3 h4
/-! ### the suite of a try -/
inductive OutY where
  | nx (c : Env) | ret (d : D)
  | ex (c : Env) (C : Addr) (ns : List Str) (ds : List D)
abbrev GY := Env → Option OutY
def PostY (K : PySem.W.Frag) (E : L2.St → XK) (W0 : Wd) (Fs : Hp) (D : Ends) : Option OutY → Prop
  | none => False
  | some (.nx c) => NxP K W0 Fs D.nx c
  | some (.ret d) => ∀ W v, WOk W → Up W0 W → Same Fs W.F → Den K W.F v d → D.rt v W.H
  | some (.ex c C ns ds) => ∀ W σ dx fs, WOk W → Up W0 W → Same Fs W.F → SD K W0 W σ c → W.H dx = some (.xd fs) → W0.H dx = none → fs.map (·.1) = ns → DenL K W.F (fs.map (·.2)) ds → E σ (.ref C) (some dx) W.H
def VSY (K : PySem.W.Frag) (W0 : Wd) (E : L2.St → XK) (ts : TS) (g : GY) : Prop :=
  ∀ (W : Wd) (σ : L2.St) (c : Env) (D : Ends), WOk W → Up W0 W → SD K W0 W σ c → PostY K E W0 W.F D (g c) → ts D σ W.H
theorem PostY.mono {F F' : Hp} {D : Ends} (e : Same F F') : ∀ {o : Option OutY}, PostY K Ex W0 F D o → PostY K Ex W0 F' D o
  | none, h => h
  | some (.nx c), h => NxP.mono h e
  | some (.ret d), h => fun W v k u f => h W v k u (e.trans f)
  | some (.ex c C ns ds), h => fun W σ dx fs k u f => h W σ dx fs k u (e.trans f)
def yNext : GY := fun c => some (.nx c)
theorem y_next : VSY K W0 Ex tNext yNext := fun W σ c D k u s h => h W σ k u (Same.refl _) s
def ySeq (g1 g2 : GY) : GY := fun c => match g1 c with
  | some (.nx c') => g2 c'
  | r => r
theorem y_seq {t1 t2 : TS} {g1 g2 : GY} (h1 : VSY K W0 Ex t1 g1) (h2 : VSY K W0 Ex t2 g2) : VSY K W0 Ex (tSeq t1 t2) (ySeq g1 g2) := by
  intro W σ c D k u s h
  refine h1 W σ c { D with nx := t2 D } k u s ?_
  unfold ySeq at h
  cases e : g1 c with
  | none => rw [e] at h; exact h
  | some o =>
    rw [e] at h
    cases o with
    | nx c' => exact fun W' σ' k' u' f' s' => h2 W' σ' c' D k' u' s' (h.mono f')
    | ret d => exact h
    | ex c' C ns ds => exact h
def yIf (p : GB) (g1 g2 : GY) : GY := fun c => match p c with
  | some true => g1 c
  | some false => g2 c
  | none => none
theorem y_if {tt : TT} {p : GB} {t1 t2 : TS} {g1 g2 : GY} (h : VB K W0 tt p) (h1 : VSY K W0 Ex t1 g1) (h2 : VSY K W0 Ex t2 g2) : VSY K W0 Ex (tIfS tt t1 t2) (yIf p g1 g2) := by
  intro W σ c D k u s q
  unfold yIf at q
  cases e : p c with
  | none => rw [e] at q; exact q.elim
  | some b =>
    rw [e] at q
    refine h W σ c b _ k u s e fun W' k' g' => ?_
    cases b with
    | true => rw [if_pos rfl]; exact h1 W' σ c D k' (u.gr g') (s.gr g') (q.mono g'.f)
    | false => rw [if_neg Bool.false_ne_true]; exact h2 W' σ c D k' (u.gr g') (s.gr g') (q.mono g'.f)
def yRet (g : GR) : GY := fun c => match g (frzAll c) with
  | some (.val d) => some (.ret d)
  | some (.exn C ns ds) => some (.ex (frzAll c) C ns ds)
  | none => none
theorem y_ret {te : TE} {g : GR} (h : VTX K W0 Ex true te g) : VSY K W0 Ex (tRet te) (yRet g) := by
  intro W σ c D k u s q
  obtain ⟨W', e, k', u', f', s'⟩ := sd_frz (c' := frzAll c) k u s (by simp [frzAll]) (fun i y hy => .inr (by simp [frzAll, hy]))
  show te σ W.H D.rt
  rw [← e]
  refine h W' σ _ _ k' u' s' ?_
  unfold yRet at q
  cases hg : g (frzAll c) with
  | none => rw [hg] at q; exact q.elim
  | some r =>
    rw [hg] at q
    cases r with
    | val d => exact fun W2 v k2 g2 hd => q W2 v k2 (u'.gr g2) (f'.trans g2.f) hd
    | exn C ns ds => exact fun W2 dx fs k2 g2 h1 h2 h3 h4 => q W2 σ dx fs k2 (u'.gr g2) (f'.trans g2.f) (s'.gr g2) h1 (u'.h.free h2) h3 h4
def yAsg (i : Nat) (g : GR) : GY := fun c => match g c with
  | some (.val d) => some (.nx (c.set i (some (.fz d))))
  | some (.exn C ns ds) => some (.ex c C ns ds)
  | none => none
theorem y_asg {i : Nat} {te : TE} {g : GR} (h : VTX K W0 Ex true te g) : VSY K W0 Ex (tAsg te (gName i)) (yAsg i g) := by
  intro W σ c D k u s q
  refine h W σ c _ k u s ?_
  unfold yAsg at q
  cases hg : g c with
  | none => rw [hg] at q; exact q.elim
  | some r =>
    rw [hg] at q
    cases r with
    | val d => exact fun W2 v k2 g2 hd => q W2 _ k2 (u.gr g2) g2.f (sd_fz (s.gr g2) i hd)
    | exn C ns ds => exact fun W2 dx fs k2 g2 h1 h2 h3 h4 => q W2 σ dx fs k2 (u.gr g2) g2.f (s.gr g2) h1 (u.h.free h2) h3 h4
def yExpr (g : GR) : GY := fun c => match g c with
  | some (.val _) => some (.nx c)
  | some (.exn C ns ds) => some (.ex c C ns ds)
  | none => none
theorem y_expr {te : TE} {g : GR} (h : VTX K W0 Ex b te g) : VSY K W0 Ex (tDrop te) (yExpr g) := by
  intro W σ c D k u s q
  refine h W σ c _ k u s ?_
  unfold yExpr at q
  cases hg : g c with
  | none => rw [hg] at q; exact q.elim
  | some r =>
    rw [hg] at q
    cases r with
    | val d => exact fun W2 v k2 g2 hd => q W2 _ k2 (u.gr g2) g2.f (s.gr g2)
    | exn C ns ds => exact fun W2 dx fs k2 g2 h1 h2 h3 h4 => q W2 σ dx fs k2 (u.gr g2) g2.f (s.gr g2) h1 (u.h.free h2) h3 h4
/-- try: suite except S as n: handler; what the suite may raise is of the class at C, which S names -/
def tTryG (K : PySem.W.Frag) (cV : Value) (i : Nat) (tb : WX → TS) (ts : Addr → Value → Option Addr → TS) (Wout : WX) : TS := fun D σ H => tb (wAs K cV i ts Wout D) D σ H
def gTryG (i : Nat) (C : Addr) (g : GY) (gs : GS) : GS := fun c => match g c with
  | some (.nx c') => some (.nx c')
  | some (.ret d) => some (.ret d)
  | some (.ex c1 C' ns es) => if C' = C ∧ (c1.set i none).all notExc = true then
      match gs (c1.set i (some (.exc C ns es))) with
      | some (.nx c') => if (c'.set i none).all notExc = true then some (.nx (c'.set i none)) else none
      | some (.ret d) => some (.ret d)
      | _ => none
    else none
  | none => none
theorem vs_tryG {i : Nat} {C : Addr} {cV : Value} {tb : WX → TS} {g : GY} {ts : Addr → Value → Option Addr → TS} {gs : GS} {Wout : WX}
    (hx : PySem.W.exmOne K (.ref C) cV = some true) (hb : ∀ Wx : WX, VSY K W0 (WE Wx) (tb Wx) g) (hs : ∀ a d, VS K (excW W0 a d) E (ts a (.ref C) (some d)) gs) :
    VS K W0 E (tTryG K cV i tb ts Wout) (gTryG i C g gs) := by
  intro W σ c D k u s q
  refine hb _ W σ c D k u s ?_
  unfold gTryG at q
  cases e : g c with
  | none => rw [e] at q; exact q.elim
  | some o =>
    rw [e] at q
    cases o with
    | nx c' => exact q
    | ret d => exact q
    | ex c1 C' ns es =>
      simp only at q
      by_cases hC : C' = C ∧ (c1.set i none).all notExc = true
      · rw [if_pos hC] at q
        obtain ⟨rfl, hne⟩ := hC
        intro W2 σ2 dx fs k2 u2 f2 s2 a6 a5 a7 a8
        refine ⟨true, hx, fun _ a na => ?_, fun z => nomatch z⟩
        have u3 : Up (excW W0 a dx) W2 := ⟨u2.h, u2.f, u2.fo⟩
        have s3 : SD K (excW W0 a dx) W2 (σ2.set i none) (c1.set i none) := sd_excW (W0 := W0) (W0' := excW W0 a dx) rfl rfl rfl hne (sd_set s2 i none none trivial fun l h => (noHold_none h).elim)
        have s4 : SD K (excW W0 a dx) W2 (σ2.set i (some (.ref a))) (c1.set i (some (.exc C' ns es))) := by
          have z := sd_set s3 i (some (.ref a)) (some (.exc C' ns es)) ⟨fs, rfl, a6, a7, a8⟩ fun l h => absurd h.2 Bool.false_ne_true
          rw [List.set_set, List.set_set] at z
          exact z
        refine hs a dx W2 _ _ _ k2 u3 s4 ?_
        cases e3 : gs (c1.set i (some (.exc C' ns es))) with
        | none => rw [e3] at q; exact q.elim
        | some o =>
          rw [e3] at q
          cases o with
          | nx c' =>
            simp only at q
            by_cases hn' : (c'.set i none).all notExc = true
            · rw [if_pos hn'] at q
              intro W3 σ3 k3 u4 f4 s5
              exact q W3 _ k3 ⟨u4.h, u4.f, u4.fo⟩ (f2.trans f4) (sd_excW (W0 := excW W0 a dx) (W0' := W0) rfl rfl rfl hn' (sd_set s5 i none none trivial fun l h => (noHold_none h).elim))
            · rw [if_neg hn'] at q; exact q.elim
          | ret d => exact fun W3 v k3 u4 f4 d3 => q W3 v k3 ⟨u4.h, u4.f, u4.fo⟩ (f2.trans f4) d3
          | bk c => exact q.elim
          | ct c => exact q.elim
          | ex C ns es => exact q.elim
      · rw [if_neg hC] at q; exact q.elim
end
/-! ### isinstance(e, T), e the exception that the suite holds, with its dict -/
structure IsxC (K : PySem.W.Frag) (D : Addr) : Prop where
  xf : XfC K D
  cl : PySem.W.isClsIn K D = true
  at_ : PySem.W.findIn K (.ref D) "__class__" = some (some (.builtin "object.__class__"))
  get : PySem.W.specialIn K (.builtin "object.__class__") "__get__" = some (some (.builtin "getset_descriptor.__get__"))
  tk : PySem.W.takesIn K (.builtin "object.__class__") = some true
  mr : PySem.W.mroIn K D (.type "object") = some true
def rIsX (K : PySem.W.Frag) (D a : Addr) (cls : Value) (d : Option Addr) : List V → Hp → VK → Prop := fun xs H Q => ∃ (c : V) (cw : Value) (r : Bool) (dd : Addr) (fs : List (Str × V)), xs = [.ref a, c] ∧ cls = .ref D ∧ d = some dd ∧ H dd = some (.xd fs) ∧ (∀ u, RelV c u → u = cw) ∧ PySem.W.kitOne K (.ref D) cw = some r ∧ Q (.bl r) H
theorem call_isX {X : Cx} {a D : Addr} {oe : Obj} {cls : Value} {d : Option Addr} {pn : List (Addr × Obj)} (C : IsxC X.K D) (hz : Zc cls d oe) (hf : ∃ vs, oe.data = .fields vs) : CallR (X.suite a ((a, oe) :: pn)) (.builtin "isinstance") (rIsX X.K D a cls d) := by
  intro pins s σ H xs us Q I r h
  obtain ⟨c, cw, ans, dd, fs, rfl, rfl, rfl, hx, hcw, e, q⟩ := h
  cases r with
  | cons r1 r2 =>
    cases r2 with
    | cons r2 r3 =>
      cases r3
      cases r1
      have ew := hcw _ r2
      subst ew
      obtain ⟨here, _⟩ := I.pin (a, oe) (List.mem_append_left _ List.mem_cons_self)
      have ho : ObjOk X.prog X.w H s.heap dd (.xd fs) := I.hok dd _ hx
      obtain ⟨mA, hns, _⟩ := ho
      obtain ⟨ob, hob, _⟩ := lookIn_ns hns
      obtain ⟨vs, hv⟩ := hf
      have J : PySem.W.InstAt s.heap a oe D (some ob) := ⟨here, hz.1, by unfold PySem.W.notCls; rw [hv] <;> rfl, by rw [hz.2]; exact hob⟩
      exact PySem.W.kia_one (PySem.W.kitx_exc C.cl C.xf.ga C.xf.gg C.xf.exC C.at_ C.get C.tk C.mr) I.kIn J e (fun z => nomatch z) fun tk => ⟨.bl ans, H, I.kept (t' := tk) fun _ _ z => z, rfl, q⟩
section
variable {K : PySem.W.Frag} {W0 W : Wd} {b : Bool}
def gIsX (i : Nat) (D : Addr) (ans : Bool) : GE := fun c => match c[i]? with
  | some (some (.exc C' _ _)) => if C' = D then some (.bl ans) else none
  | _ => none
theorem vt_isX {i : Nat} {a d D : Addr} {cv : V} {cw : Value} {ans : Bool} (hcv : ∀ u, RelV cv u → u = cw) (hk : PySem.W.kitOne K (.ref D) cw = some ans) : VT K (excW W0 a d) b (tCB (rIsX K D a (.ref D) (some d)) (tCons (tVar i) (tCons (tC cv) tNil))) (gIsX i D ans) := by
  intro W σ c z Q k u s e q
  unfold gIsX at e
  split at e
  · rename_i C' ns es hc
    split at e
    · rename_i hC
      subst hC
      cases e
      obtain ⟨x, hx, fs, rfl, e1, e2, e3⟩ := s.at hc
      exact ⟨_, hx, _, _, ans, d, fs, rfl, rfl, rfl, e1, hcv, hk, q W _ k (Gr.refl W) (.bl ans)⟩
    · cases e
  · cases e
theorem exm_sub {C S : Addr} (e : PySem.W.subIn K (.ref S) (.type "BaseException") = some true) (i : PySem.W.isClsIn K S = true) (t : PySem.W.typeIn K (.ref S) = some (.type "type")) (s : PySem.W.subIn K (.ref C) (.ref S) = some true) : PySem.W.exmOne K (.ref C) (.ref S) = some true := by
  have i' : (PySem.W.clsIn K S).isSome = true := i
  unfold PySem.W.exmOne
  rw [e]
  refine (if_pos (by simp)).trans ?_
  unfold PySem.W.kitCls
  simp [i', t, s]
theorem kit_same {C : Addr} : PySem.W.kitOne K (.ref C) (.ref C) = some true := by
  unfold PySem.W.kitOne
  exact if_pos (by simp)
theorem kit_sub {C S : Addr} {r : Bool} (n : C ≠ S) (i : PySem.W.isClsIn K S = true) (t : PySem.W.typeIn K (.ref S) = some (.type "type")) (s : PySem.W.subIn K (.ref C) (.ref S) = some r) : PySem.W.kitOne K (.ref C) (.ref S) = some r := by
  have i' : (PySem.W.clsIn K S).isSome = true := i
  unfold PySem.W.kitOne
  refine (if_neg (by simpa using n)).trans ?_
  unfold PySem.W.kitCls
  simp [i', t, s]
theorem kit_ty {C : Addr} {n : String} {r : Bool} (m : PySem.W.kitMeta n = true) (s : PySem.W.subIn K (.ref C) (.type n) = some r) : PySem.W.kitOne K (.ref C) (.type n) = some r := by
  unfold PySem.W.kitOne
  refine (if_neg (by simp)).trans ?_
  unfold PySem.W.kitCls
  simp [m, s]
theorem pt_truthK {X : Cx} {a : Expr} {ta : TE} (hK : X.K = K) (ha : PE X a ta) (he : ∀ whole, isTrue a X.env whole = (do let v ← whole; standAt a.pos; holding [v] (truthy v))) : PT X a (fun σ H Q => ta σ H fun x H' => ∃ k, TruV K x H' k ∧ Q k H') := by
  subst hK
  exact pt_truth ha he
theorem pe_fldK {X : Cx} {e : Expr} {f : Str} {ta : TE} {pos : Pos} (hK : X.K = K) (he : PE X e ta) (hb : attributeBase e f X.env (eval e X.env) = eval e X.env) : PE X (.Attribute e f pos) (tFld K ta f) := by
  subst hK
  exact pe_fld he hb
theorem pe_cntK {X : Cx} {o e : Expr} {to : TE} {t : TA} {apos cpos : Pos} (hK : X.K = K) (ho : PE X o to) (ha : PA X [e] t)
    (hbase : attributeBase o "count" X.env (eval o X.env) = eval o X.env := by rfl)
    (hfew : ((backTo cpos (starEach [e] X.env)).all (fun x => !x.1) && (backToKw cpos (keywordEach [] X.env)).all (fun x => x.1.isSome) && decide ([e].length + ([] : List Keyword).length + (if ([] : List Keyword).isEmpty then 0 else 1) < 30)) = true := by rfl)
    (hline : (apos.endLine == cpos.line) = true := by rfl) (hs : starEach [e] X.env = (false, eval e X.env) :: starEach [] X.env := by rfl) : PE X (.Call (.Attribute o "count" apos) [e] [] cpos) (tBM K "list" (rCntU K) to t) := by
  subst hK
  exact pe_bm PySem.F.plainAttrs_list PySem.F.slot_list_count PySem.F.type_list_count mt_cntU ho ha hbase hfew hline hs
theorem ps_tryG {X : Cx} {x n : Str} {c : Value} {i : Nat} {body suite : List Stmt} {b₀ : Stmt} {np pos pos' : Pos} {tb : WX → TS} {ts : Addr → Value → Option Addr → TS} {Wout : WX} (hK : X.K = K) (hs : X.stack = X.env :: X.outer) (hf : X.env.frame = some X.env.locals) (hN : X.N.Nodup) (hi : X.N[i]? = some n) (hln : X.env.kindOf n = some .local) (hc : Names X x c) (tk : Takes X Wout)
    (hb : ∀ (W : WX) (pn : List (Addr × Obj)) (xe : Value → Shared → Prop), Takes (X.tr pn xe) W → PassesOwn (model X.prog X.w) X.A X.env xe → PSs (X.tr pn xe) body (tb W))
    (hsu : ∀ (a : Addr) (oe : Obj) (cls : Value) (d : Option Addr) (pn : List (Addr × Obj)), Zc cls d oe → (∃ vs, oe.data = .fields vs) → PSs (X.suite a ((a, oe) :: pn)) (b₀ :: suite) (ts a cls d)) :
    PS X (.Try body [.ExceptHandler (some (.Name x np)) (some n) (b₀ :: suite) pos'] [] [] pos) (tTryG K c i tb ts Wout) := by
  subst hK
  exact ps_try_as hs hf hN hi hln hc tk hb hsu
/-! a, b = a tuple or a list -/
def gTupU (K : PySem.W.Frag) (n : Nat) (t : TGs) : TG := fun v σ H Q => L2.gTup K n t v σ H Q ∨ gLst K n t v σ H Q
theorem pg_tupU {X : Cx} {pos : Pos} {es : List Expr} {k : Nat} {t : TGs} {n : Nat} (hK : X.K = K) (hc : X.calm = true) (h : PGs X es t) (hn : (assignEach es X.env).length = n := by rfl) (hst : (assignEach es X.env).findIdx? (·.1) = none := by rfl) : PG X (.Tuple es k pos) (gTupU K n t) := by
  subst hK
  refine ⟨fun pins s σ H v u Q I r hw => ?_⟩
  rcases hw with hw | hw
  · exact (pg_tup hc h hn hst).run pins s σ H v u Q I r hw
  · exact (pg_lst hc h hn hst).run pins s σ H v u Q I r hw
def fTupU (n : Nat) (fs : List D → Env → Option Env) : D → Env → Option Env
  | .tup ds, c => if ds.length = n then fs ds c else none
  | .lst ds, c => if ds.length = n then fs ds c else none
  | _, _ => none
theorem vg_tupU {n : Nat} {ts : TGs} {js : List Nat} {fs : List D → Env → Option Env} (hs : VGs K W0 ts js fs) : VG K W0 (gTupU K n ts) js (fTupU n fs) := by
  intro W σ c c' v d Q k s hd e q
  unfold fTupU at e
  split at e
  · split at e
    · rename_i hn
      cases hd with
      | tup h1 h2 => exact .inl ⟨_, _, rfl, sqT_same k.fh h1, by rw [h2.length]; exact hn, hs W σ c c' _ _ Q k s h2 e q⟩
    · cases e
  · split at e
    · rename_i hn
      cases hd with
      | lst h1 h2 => exact .inr ⟨_, _, rfl, SqL.of (k.fh _ _ h1), by rw [h2.length]; exact hn, hs W σ c c' _ _ Q k s h2 e q⟩
    · cases e
  · cases e
end
end VL
end

section
/-! VP: what a statement's function of cells gives, rule by rule. -/
namespace VL
open PySem PySem.Spec PyProof.Rows L2
def Wp (g : GS) (c : Env) (P : Out → Prop) : Prop := ∃ o, g c = some o ∧ P o
def WpK (g : GS) (P : Out → Prop) : Out → Prop
  | .nx c => Wp g c P
  | .ret d => P (.ret d)
  | .bk c => P (.bk c)
  | .ct c => P (.ct c)
  | .ex C ns ds => P (.ex C ns ds)
section
variable {g g1 g2 gb : GS} {ge ge2 : GE} {c c' : Env} {P R : Out → Prop} {p : GB}
theorem Wp.mono (h : Wp g c P) (i : ∀ o, P o → R o) : Wp g c R := by
  obtain ⟨o, h1, h2⟩ := h
  exact ⟨o, h1, i o h2⟩
theorem wp_seq (h : Wp g1 c (WpK g2 P)) : Wp (gSeq g1 g2) c P := by
  obtain ⟨o, h1, h2⟩ := h
  cases o with
  | nx c' =>
    obtain ⟨o', h3, h4⟩ := h2
    refine ⟨o', ?_, h4⟩
    unfold gSeq
    rw [h1]
    exact h3
  | ret d => exact ⟨_, by unfold gSeq; rw [h1], h2⟩
  | bk d => exact ⟨_, by unfold gSeq; rw [h1], h2⟩
  | ct d => exact ⟨_, by unfold gSeq; rw [h1], h2⟩
  | ex C ns ds => exact ⟨_, by unfold gSeq; rw [h1], h2⟩
theorem wp_next (h : P (.nx c)) : Wp gNext c P := ⟨_, rfl, h⟩
theorem wp_break (h : P (.bk c)) : Wp gBreak c P := ⟨_, rfl, h⟩
theorem wp_cont (h : P (.ct c)) : Wp gCont c P := ⟨_, rfl, h⟩
theorem wp_if {b : Bool} (hp : p c = some b) (ht : b = true → Wp g1 c P) (hf : b = false → Wp g2 c P) : Wp (gIf p g1 g2) c P := by
  cases b with
  | true => obtain ⟨o, h1, h2⟩ := ht rfl; exact ⟨o, by unfold gIf; rw [hp]; exact h1, h2⟩
  | false => obtain ⟨o, h1, h2⟩ := hf rfl; exact ⟨o, by unfold gIf; rw [hp]; exact h1, h2⟩
theorem wp_ift (hp : p c = some true) (h : Wp g1 c P) : Wp (gIf p g1 g2) c P := wp_if hp (fun _ => h) (fun e => nomatch e)
theorem wp_iff (hp : p c = some false) (h : Wp g2 c P) : Wp (gIf p g1 g2) c P := wp_if hp (fun e => nomatch e) (fun _ => h)
theorem wp_asg {f : D → Env → Option Env} {d : D} (h : ge c = some d) (hf : f d c = some c') (hP : P (.nx c')) : Wp (gAsg ge f) c P :=
  ⟨.nx c', by unfold gAsg; rw [h]; show (match f d c with | some c' => some (Out.nx c') | none => none) = _; rw [hf], hP⟩
theorem wp_set {i : Nat} {d : D} (h : ge c = some d) (hP : P (.nx (c.set i (some (.fz d))))) : Wp (gAsg ge (fName i)) c P := wp_asg h rfl hP
theorem wp_asgN {i : Nat} {ga : GA} {ds : List D} (h : ga c = some ds) (hP : P (.nx (c.set i (some (.own ds))))) : Wp (gAsgN i ga) c P :=
  ⟨_, by unfold gAsgN; rw [h], hP⟩
theorem wp_ret {d : D} (h : ge (frzAll c) = some d) (hP : P (.ret d)) : Wp (gRet ge) c P := ⟨_, by unfold gRet; rw [h], hP⟩
theorem wp_retN (hP : P (.ret .non)) : Wp gRetN c P := ⟨_, rfl, hP⟩
theorem wp_append {i : Nat} {ds : List D} {d : D} (hc : c[i]? = some (some (.own ds))) (h : ge c = some d) (hl : ds.length < sizeLine) (hP : P (.nx (c.set i (some (.own (ds ++ [d])))))) : Wp (gAppend i ge) c P :=
  ⟨_, by unfold gAppend; rw [hc]; show (match ge c with | some d => if ds.length < sizeLine then some (Out.nx (c.set i (some (.own (ds ++ [d]))))) else none | none => none) = _; rw [h]; exact if_pos hl, hP⟩
theorem wp_frz {i : Nat} (h : Wp g (frz i c) P) : Wp (gFrz i g) c P := h
theorem wp_par {i j : Nat} {ga : GA} {x y : D} (h : ga c = some [x, y]) (hP : P (.nx ((c.set i (some (.fz x))).set j (some (.fz y))))) : Wp (gPar i j ga) c P :=
  ⟨_, by unfold gPar; rw [h], hP⟩
theorem wp_drop {d : D} (h : ge c = some d) (hP : P (.nx c)) : Wp (gDrop ge) c P := ⟨_, by unfold gDrop; rw [h], hP⟩
def WpL (f : D → Env → Option Env) (gb : GS) (ds : List D) (c : Env) (P : Out → Prop) : Prop := ∃ o, gLoop f gb ds c = some o ∧ P o
theorem wp_for {gi : GA} {f : D → Env → Option Env} {ds : List D} (hi : gi c = some ds) (h : WpL f gb ds c P) : Wp (gFor gi f gb) c P := by
  obtain ⟨o, h1, h2⟩ := h
  exact ⟨o, by unfold gFor; rw [hi]; exact h1, h2⟩
/-- behind one turn of a loop -/
def Turn (I : Env → Prop) (P : Out → Prop) : Out → Prop
  | .nx c => I c
  | .ct c => I c
  | .bk c => P (.nx c)
  | .ret d => P (.ret d)
  | .ex C ns ds => P (.ex C ns ds)
theorem wpl_nil {f : D → Env → Option Env} (h : P (.nx c)) : WpL f gb [] c P := ⟨_, rfl, h⟩
theorem wpl_cons {f : D → Env → Option Env} {d : D} {ds : List D} {c1 : Env} (hf : f d c = some c1) (h : Wp gb c1 (Turn (fun c2 => WpL f gb ds c2 P) P)) : WpL f gb (d :: ds) c P := by
  obtain ⟨o, h1, h2⟩ := h
  cases o with
  | nx c2 => obtain ⟨o2, h3, h4⟩ := h2; exact ⟨o2, by unfold gLoop; rw [hf]; show (match gb c1 with | some (.nx c2) => gLoop f gb ds c2 | some (.ct c2) => gLoop f gb ds c2 | some (.bk c2) => some (.nx c2) | r => r) = _; rw [h1]; exact h3, h4⟩
  | ct c2 => obtain ⟨o2, h3, h4⟩ := h2; exact ⟨o2, by unfold gLoop; rw [hf]; show (match gb c1 with | some (.nx c2) => gLoop f gb ds c2 | some (.ct c2) => gLoop f gb ds c2 | some (.bk c2) => some (.nx c2) | r => r) = _; rw [h1]; exact h3, h4⟩
  | bk c2 => exact ⟨_, by unfold gLoop; rw [hf]; show (match gb c1 with | some (.nx c2) => gLoop f gb ds c2 | some (.ct c2) => gLoop f gb ds c2 | some (.bk c2) => some (.nx c2) | r => r) = _; rw [h1], h2⟩
  | ret d => exact ⟨_, by unfold gLoop; rw [hf]; show (match gb c1 with | some (.nx c2) => gLoop f gb ds c2 | some (.ct c2) => gLoop f gb ds c2 | some (.bk c2) => some (.nx c2) | r => r) = _; rw [h1], h2⟩
  | ex C ns es => exact ⟨_, by unfold gLoop; rw [hf]; show (match gb c1 with | some (.nx c2) => gLoop f gb ds c2 | some (.ct c2) => gLoop f gb ds c2 | some (.bk c2) => some (.nx c2) | r => r) = _; rw [h1], h2⟩
/-- THE RULE for a loop: an invariant of what is done -/
theorem wpl_inv {α : Type} {f : D → Env → Option Env} {e : α → D} (I : List α → Env → Prop) : ∀ (ys xs : List α) (c : Env), I ys c →
    (∀ done x rest c, ys ++ xs = done ++ x :: rest → I done c → ∃ c1, f (e x) c = some c1 ∧ Wp gb c1 (Turn (I (done ++ [x])) P)) → (∀ c, I (ys ++ xs) c → P (.nx c)) → WpL f gb (xs.map e) c P
  | ys, [], c, hI, hs, he => wpl_nil (he c (by simpa using hI))
  | ys, x :: xs, c, hI, hs, he => by
    obtain ⟨c1, h1, h2⟩ := hs ys x xs c rfl hI
    refine wpl_cons h1 (h2.mono fun o ho => ?_)
    have hs' : ∀ done y rest c, (ys ++ [x]) ++ xs = done ++ y :: rest → I done c → ∃ c1, f (e y) c = some c1 ∧ Wp gb c1 (Turn (I (done ++ [y])) P) := fun done y rest c q => hs done y rest c (by simpa using q)
    have he' : ∀ c, I ((ys ++ [x]) ++ xs) c → P (.nx c) := fun c q => he c (by simpa using q)
    cases o with
    | nx c2 => exact wpl_inv I (ys ++ [x]) xs c2 ho hs' he'
    | ct c2 => exact wpl_inv I (ys ++ [x]) xs c2 ho hs' he'
    | bk c2 => exact ho
    | ret d => exact ho
    | ex C ns ds => exact ho
theorem wpl_all {α : Type} {f : D → Env → Option Env} {e : α → D} (I : List α → Env → Prop) {xs : List α} (h0 : I [] c)
    (hs : ∀ done x rest c, xs = done ++ x :: rest → I done c → ∃ c1, f (e x) c = some c1 ∧ Wp gb c1 (Turn (I (done ++ [x])) P)) (he : ∀ c, I xs c → P (.nx c)) : WpL f gb (xs.map e) c P :=
  wpl_inv I [] xs c h0 hs he
/-- a loop over a range -/
theorem wpl_rg {f : D → Env → Option Env} {n : Nat} (I : Nat → Env → Prop) (h0 : I 0 c)
    (hs : ∀ k c, k < n → I k c → ∃ c1, f (.int (k : Nat)) c = some c1 ∧ Wp gb c1 (Turn (I (k + 1)) P)) (he : ∀ c, I n c → P (.nx c)) : WpL f gb (rgD 0 n) c P := by
  have e : rgD 0 n = (List.range n).map fun i => D.int (i : Nat) := by
    unfold rgD
    apply List.map_congr_left
    intro i _
    rw [Int.zero_add]
  rw [e]
  refine wpl_all (fun done c => I done.length c) h0 ?_ ?_
  · intro done x rest c q hI
    have hx : x = done.length ∧ done.length < n := by
      have h1 : (List.range n)[done.length]? = some x := by rw [q]; simp
      have h2 : done.length < n := by
        have := congrArg List.length q
        simp at this
        omega
      rw [List.getElem?_range h2] at h1
      exact ⟨(Option.some.inj h1).symm, h2⟩
    obtain ⟨rfl, h2⟩ := hx
    rw [List.length_append]
    exact hs _ c h2 hI
  · intro c hI
    rw [List.length_range] at hI
    exact he c hI
/-- a loop over enumerate -/
theorem wpl_en {α : Type} {f : D → Env → Option Env} {e : α → D} (I : List α → Env → Prop) : ∀ (ys xs : List α) (c : Env), I ys c →
    (∀ done x rest c, ys ++ xs = done ++ x :: rest → I done c → ∃ c1, f (.tup [.int (done.length : Nat), e x]) c = some c1 ∧ Wp gb c1 (Turn (I (done ++ [x])) P)) → (∀ c, I (ys ++ xs) c → P (.nx c)) → WpL f gb (enD ys.length (xs.map e)) c P
  | ys, [], c, hI, hs, he => wpl_nil (he c (by simpa using hI))
  | ys, x :: xs, c, hI, hs, he => by
    obtain ⟨c1, h1, h2⟩ := hs ys x xs c rfl hI
    refine wpl_cons h1 (h2.mono fun o ho => ?_)
    have hs' : ∀ done y rest c, (ys ++ [x]) ++ xs = done ++ y :: rest → I done c → ∃ c1, f (.tup [.int (done.length : Nat), e y]) c = some c1 ∧ Wp gb c1 (Turn (I (done ++ [y])) P) := fun done y rest c q => hs done y rest c (by simpa using q)
    have he' : ∀ c, I ((ys ++ [x]) ++ xs) c → P (.nx c) := fun c q => he c (by simpa using q)
    have hl : (ys ++ [x]).length = ys.length + 1 := by simp
    cases o with
    | nx c2 => have := wpl_en I (ys ++ [x]) xs c2 ho hs' he'; rw [hl] at this; exact this
    | ct c2 => have := wpl_en I (ys ++ [x]) xs c2 ho hs' he'; rw [hl] at this; exact this
    | bk c2 => exact ho
    | ret d => exact ho
    | ex C ns ds => exact ho
theorem wp_fldS {C : Addr} {i : Nat} {f : Str} {ns : List Str} {ds : List D} {d : D} (hc : c[i]? = some (some (.slf C ns ds))) (h : ge c = some d) (hf : f ∉ ns ∧ ns.length < 1000) (hP : P (.nx (c.set i (some (.slf C (ns ++ [f]) (ds ++ [d])))))) : Wp (gFldS C i f ge) c P :=
  ⟨_, by unfold gFldS; rw [hc]; show (match ge c with | some d => if C = C ∧ f ∉ ns ∧ ns.length < 1000 then some (Out.nx (c.set i (some (.slf C (ns ++ [f]) (ds ++ [d]))))) else none | none => none) = _; rw [h]; exact if_pos ⟨rfl, hf⟩, hP⟩
theorem i_val {C : Addr} {n nn : Nat} {ds : List D} {ns : List Str} {es : List D} (hl : ds.length = n) (h : Wp g (VL.envI C nn ds) (fun o => ∃ c, o = .nx c ∧ c[0]? = some (some (.slf C ns es)))) : iOf C n nn g ds = some (ns, es) := by
  obtain ⟨o, h1, c, rfl, h2⟩ := h
  unfold iOf
  rw [if_pos hl, h1]
  show (match (c[0]? : Option (Option Cell)) with | some (some (Cell.slf C' ns es)) => if C' = C then some (ns, es) else none | _ => none) = _
  rw [h2]
  exact if_pos rfl
/-- a def's call -/
theorem m_val {n nn : Nat} {ds : List D} {r : Res} (hl : ds.length = n) (h : Wp g (VL.envOf nn ds) (fun o => outRes (some o) = some r)) : mOf n nn g ds = some r := by
  obtain ⟨o, h1, h2⟩ := h
  unfold mOf
  rw [if_pos hl, h1]
  exact h2
theorem m_ex {n nn : Nat} {ds : List D} {S : D → Prop} (hl : ds.length = n) (h : Wp g (VL.envOf nn ds) (fun o => ∃ d, o = .ret d ∧ S d)) : ∃ d, mOf n nn g ds = some (.val d) ∧ S d := by
  obtain ⟨o, h1, d, rfl, h2⟩ := h
  refine ⟨d, ?_, h2⟩
  unfold mOf
  rw [if_pos hl, h1]
  rfl
/-! expressions -/
theorem e_fn {m : List D → Option Res} {ga : GA} {ds : List D} {d : D} (h : ga c = some ds) (hm : m ds = some (.val d)) : gFn m ga c = some d := by
  unfold gFn
  rw [h]
  show (match m ds with | some (.val d) => some d | _ => none) = _
  rw [hm]
theorem e_2 {f : D → D → Option D} {x y z : D} (h1 : ge c = some x) (h2 : ge2 c = some y) (h : f x y = some z) : VL.g2 f ge ge2 c = some z := by
  unfold VL.g2
  rw [h1, h2]
  exact h
theorem e_call {f : List D → Option D} {ga : GA} {ds : List D} {d : D} (h : ga c = some ds) (hf : f ds = some d) : gCall f ga c = some d := by
  unfold gCall
  rw [h]
  exact hf
theorem e_rg1 {ga : GA} {n : Int} (h : ga c = some [.int n]) (h1 : -(2 ^ 62) ≤ n) (h2 : n < 2 ^ 62) : gRg1 ga c = some (rgD 0 n.toNat) := by
  unfold gRg1
  rw [h]
  exact if_pos ⟨h1, h2⟩
theorem e_items {d : D} {ds : List D} (h : ge c = some d) (hi : d.iter = some ds) : gIt ge c = some ds := by
  unfold gIt
  rw [h]
  exact hi
theorem e_and {p q : GB} {a b : Bool} (h1 : p c = some a) (h2 : a = true → q c = some b) : gAnd p q c = some (a && b) := by
  unfold gAnd
  rw [h1]
  cases a with
  | true => exact h2 rfl
  | false => rfl
theorem e_or {p q : GB} {a b : Bool} (h1 : p c = some a) (h2 : a = false → q c = some b) : gOr p q c = some (a || b) := by
  unfold gOr
  rw [h1]
  cases a with
  | false => exact h2 rfl
  | true => rfl
theorem e_not {p : GB} {a : Bool} (h : p c = some a) : gNot p c = some (!a) := by
  unfold gNot
  rw [h]; rfl
theorem e_tru {d : D} {b : Bool} (h : ge c = some d) (ht : d.tru = some b) : gTru ge c = some b := by
  unfold gTru
  rw [h]; exact ht
theorem e_B {b : Bool} (h : ge c = some (.bl b)) : gB ge c = some b := by
  unfold gB
  rw [h]
theorem e_bl {p : GB} {b : Bool} (h : p c = some b) : gBl p c = some (.bl b) := by
  unfold gBl
  rw [h]; rfl
theorem wp_raise2 {C : Addr} {f g' : Str} {gs : GA} {y z : D} (h : gs c = some [y, z]) (hP : P (.ex C [g', f] [z, y])) : Wp (gRaise2 C f g' gs) c P :=
  ⟨_, by unfold gRaise2; rw [h], hP⟩
theorem wp_raise1 {C : Addr} {f : Str} {gs : GA} {y : D} (h : gs c = some [y]) (hP : P (.ex C [f] [y])) : Wp (gRaise1 C f gs) c P :=
  ⟨_, by unfold gRaise1; rw [h], hP⟩
theorem e_fld {C : Addr} {f : Str} {ns : List Str} {ds : List D} {d : D} (h : ge c = some (.ins C ns ds)) (hl : lookD ns ds f = some d) : gFld C f ge c = some d := by
  unfold gFld
  rw [h]
  exact (if_pos rfl).trans hl
theorem e_part {i : Int} (h : ge c = some (.int i)) : gPart ge c = some (some i) := by
  unfold gPart
  rw [h]
theorem e_enum {d : D} {ds : List D} (h : ge c = some d) (hi : d.items = some ds) : gEnum ge c = some (enD 0 ds) := by
  unfold gEnum
  rw [h]
  show d.items.map (enD 0) = _
  rw [hi]; rfl
theorem e_cut {d z : D} {gl gh : Env → Option (Option Int)} {lo hi : Option Int} (h : ge c = some d) (hl : gl c = some lo) (hh : gh c = some hi) (hc : dCut d lo hi = some z) : gCut ge gl gh c = some z := by
  unfold gCut
  rw [h, hl, hh]
  exact hc
theorem e_cons {ga : GA} {x : D} {xs : List D} (h : ge c = some x) (hs : ga c = some xs) : VL.gCons ge ga c = some (x :: xs) := by
  unfold VL.gCons
  rw [h, hs]
theorem e_tup {ga : GA} {xs : List D} (h : ga c = some xs) (hl : xs.length ≤ sizeLine) : VL.gTup ga c = some (.tup xs) := by
  unfold VL.gTup
  rw [h]
  first | exact if_pos hl | rfl
theorem e_lst {ga : GA} {xs : List D} (h : ga c = some xs) : gL ga c = some (.lst xs) := by
  unfold gL
  rw [h]
theorem lc_map {α : Type} {f : D → Env → Option Env} {e h : α → D} {q : α → Bool} : ∀ {xs : List α}, (∀ x ∈ xs, ∃ c1, f (e x) c = some c1 ∧ p c1 = some (q x) ∧ (q x = true → ge c1 = some (h x))) → gLcL f p ge c (xs.map e) = some ((xs.filter q).map h)
  | [], _ => rfl
  | x :: xs, hx => by
    obtain ⟨c1, h1, h2, h3⟩ := hx x (List.mem_cons_self ..)
    have ih := lc_map (xs := xs) fun y hy => hx y (List.mem_cons_of_mem _ hy)
    rw [List.map_cons]
    unfold gLcL
    rw [h1]
    show (match p c1 with | none => none | some false => gLcL f p ge c (xs.map e) | some true => match ge c1 with | none => none | some y => match gLcL f p ge c (xs.map e) with | some ys => some (y :: ys) | none => none) = _
    rw [h2]
    cases hq : q x with
    | false => rw [List.filter_cons_of_neg (by simp [hq])]; exact ih
    | true =>
      rw [List.filter_cons_of_pos hq, h3 hq, ih]
      rfl
theorem e_lcF {α : Type} {gi : GA} {f : D → Env → Option Env} {e h : α → D} {q : α → Bool} {vs : List Nat} {xs : List α} (hi : gi c = some (xs.map e)) (hl : xs.length ≤ sizeLine)
    (hx : ∀ x ∈ xs, ∃ c1, f (e x) (wipeC c vs) = some c1 ∧ p c1 = some (q x) ∧ (q x = true → ge c1 = some (h x))) : gLc gi f p ge vs c = some ((xs.filter q).map h) := by
  unfold gLc
  rw [hi]
  show (if (xs.map e).length ≤ sizeLine then gLcL f p ge (wipeC c vs) (xs.map e) else none) = _
  rw [if_pos (by simpa using hl)]
  exact lc_map hx
theorem e_lc {α : Type} {gi : GA} {f : D → Env → Option Env} {e h : α → D} {vs : List Nat} {xs : List α} (hi : gi c = some (xs.map e)) (hl : xs.length ≤ sizeLine)
    (hx : ∀ x ∈ xs, ∃ c1, f (e x) (wipeC c vs) = some c1 ∧ ge c1 = some (h x)) : gLc gi f gYes ge vs c = some (xs.map h) := by
  have := e_lcF (p := gYes) (ge := ge) (q := fun _ => true) hi hl fun x hm => by
    obtain ⟨c1, h1, h2⟩ := hx x hm
    exact ⟨c1, h1, rfl, fun _ => h2⟩
  rw [show xs.filter (fun _ => true) = xs from List.filter_eq_self.mpr fun _ _ => rfl] at this
  exact this
theorem wp_callX {m : List D → Option Res} {ga : GA} {nxt : D → GS} {ds : List D} {d : D} (h : ga c = some ds) (hm : m ds = some (.val d)) (hP : Wp (nxt d) c P) : Wp (gCallX m ga nxt) c P := by
  obtain ⟨o, h1, h2⟩ := hP
  refine ⟨o, ?_, h2⟩
  unfold gCallX
  rw [h]
  show (match m ds with | some (.val d) => nxt d c | some (.exn C ns es) => some (.ex C ns es) | none => none) = _
  rw [hm]
  exact h1
theorem wp_callX_ex {m : List D → Option Res} {ga : GA} {nxt : D → GS} {ds es : List D} {C : Addr} {ns : List Str} (h : ga c = some ds) (hm : m ds = some (.exn C ns es)) (hP : P (.ex C ns es)) : Wp (gCallX m ga nxt) c P := by
  refine ⟨_, ?_, hP⟩
  unfold gCallX
  rw [h]
  show (match m ds with | some (.val d) => nxt d c | some (.exn C ns es) => some (.ex C ns es) | none => none) = _
  rw [hm]
theorem e_cat {ge' : GE} {a b : List D} (h1 : ge c = some (.lst a)) (h2 : ge' c = some (.lst b)) (hl : a.length + b.length ≤ sizeLine) : gCat ge ge' c = some (a ++ b) := by
  unfold gCat
  rw [h1, h2]
  exact if_pos hl
theorem lc_ex {α β : Type} {f : D → Env → Option Env} {e : α → D} {h : β → D} {S : β → Prop} : ∀ {xs : List α}, (∀ x ∈ xs, ∃ c1 y, f (e x) c = some c1 ∧ ge c1 = some (h y) ∧ S y) → ∃ ys : List β, gLcL f gYes ge c (xs.map e) = some (ys.map h) ∧ ys.length = xs.length ∧ ∀ y ∈ ys, S y
  | [], _ => ⟨[], rfl, rfl, by simp⟩
  | x :: xs, hx => by
    obtain ⟨c1, y, h1, h2, h3⟩ := hx x (List.mem_cons_self ..)
    obtain ⟨ys, i1, i2, i3⟩ := lc_ex (xs := xs) fun z hz => hx z (List.mem_cons_of_mem _ hz)
    refine ⟨y :: ys, ?_, by simp [i2], by intro z hz; rcases List.mem_cons.mp hz with q | q; rw [q]; exact h3; exact i3 z q⟩
    rw [List.map_cons]
    unfold gLcL
    rw [h1]
    show (match ge c1 with | none => none | some y => match gLcL f gYes ge c (xs.map e) with | some ys => some (y :: ys) | none => none) = _
    rw [h2, i1]
    rfl
theorem e_lcE {α β : Type} {gi : GA} {f : D → Env → Option Env} {e : α → D} {h : β → D} {S : β → Prop} {vs : List Nat} {xs : List α} (hi : gi c = some (xs.map e)) (hl : xs.length ≤ sizeLine)
    (hx : ∀ x ∈ xs, ∃ c1 y, f (e x) (wipeC c vs) = some c1 ∧ ge c1 = some (h y) ∧ S y) : ∃ ys : List β, gLc gi f gYes ge vs c = some (ys.map h) ∧ ys.length = xs.length ∧ ∀ y ∈ ys, S y := by
  obtain ⟨ys, h1, h2⟩ := lc_ex hx
  refine ⟨ys, ?_, h2⟩
  unfold gLc
  rw [hi]
  show (if (xs.map e).length ≤ sizeLine then gLcL f gYes ge (wipeC c vs) (xs.map e) else none) = _
  rw [if_pos (by simpa using hl)]
  exact h1
theorem rgD_map (n : Nat) : rgD 0 n = (List.range n).map fun (i : Nat) => D.int (i : Nat) := by
  unfold rgD
  apply List.map_congr_left
  intro i _
  rw [Int.zero_add]
theorem e_make {C : Addr} {m : List D → Option (List Str × List D)} {gs : GA} {ds es : List D} {ns : List Str} (h : gs c = some ds) (hm : m ds = some (ns, es)) : gMake C m gs c = some (.ins C ns es) := by
  unfold gMake
  rw [h]
  show (match m ds with | some (ns, es) => some (D.ins C ns es) | none => none) = _
  rw [hm]
theorem wp_mx {i : Nat} {m : List D → Option (List D × List D)} {ga : GA} {gx : GX} {ds as es : List D} (h : ga c = some ds) (hm : m ds = some (as, es)) (hi : i < c.length) (hP : Wp (gx as es) (c.set i none) P) : Wp (gMx i m ga gx) c P := by
  obtain ⟨o, h1, h2⟩ := hP
  refine ⟨o, ?_, h2⟩
  unfold gMx
  rw [h]
  show (match m ds with | some (as, es) => if i < c.length then gx as es (c.set i none) else none | none => none) = _
  rw [hm]
  exact (if_pos hi).trans h1
theorem wp_xasg {i j : Nat} {gx : GX} {as es : List D} {d : D} (h : ge c = some d) (hij : i ≠ j) (hP : Wp (gx as es) (c.set j (some (.fz d))) P) : Wp (gXAsg i j ge gx as es) c P := by
  obtain ⟨o, h1, h2⟩ := hP
  refine ⟨o, ?_, h2⟩
  unfold gXAsg
  rw [h]
  exact (if_neg hij).trans h1
theorem wp_xapp {i : Nat} {k : Int} {tst : GB} {gx : GX} {as es : List D} {b : Bool} {n : Int} {d : D} (S : List D → Prop) (ht : tst c = some b) (h0 : S es) (hk : k = as.length) (he : ge (c.set i (some (.fz (.lst (as ++ [.lst es]))))) = some (.int n)) (hd : atI es n = some d) (hl : es.length < sizeLine) (h1 : S (es ++ [d])) (hP : ∀ es', S es' → Wp (gx as es') c P) : Wp (gXApp i k tst ge gx as es) c P := by
  cases b with
  | false =>
    obtain ⟨o, q1, q2⟩ := hP es h0
    exact ⟨o, by unfold gXApp; rw [ht]; exact q1, q2⟩
  | true =>
    obtain ⟨o, q1, q2⟩ := hP _ h1
    refine ⟨o, ?_, q2⟩
    unfold gXApp
    rw [ht]
    show (if k = as.length then match ge (c.set i (some (.fz (.lst (as ++ [.lst es]))))) with
      | some (.int n) => match atI es n with
        | some d => if es.length < sizeLine then gx as (es ++ [d]) c else none
        | none => none
      | _ => none
      else none) = _
    rw [if_pos hk, he]
    show (match atI es n with | some d => if es.length < sizeLine then gx as (es ++ [d]) c else none | none => none) = _
    rw [hd]
    exact (if_pos hl).trans q1
theorem wp_xdone {i : Nat} {as es : List D} (hP : Wp g (c.set i (some (.fz (.lst (as ++ [.lst es]))))) P) : Wp (gXDone i g as es) c P := hP
theorem wp_try_ex {i : Nat} {C : Addr} {m : List D → Option Res} {ga : GA} {ds es : List D} {ns : List Str} (h : ga c = some ds) (hm : m ds = some (.exn C ns es)) (hn : (c.set i none).all notExc = true) (hP : Wp g (c.set i (some (.exc C ns es))) (fun o => ∃ d, o = .ret d ∧ P (.ret d))) : Wp (gTry i C m ga g) c P := by
  obtain ⟨o, h1, d, rfl, h2⟩ := hP
  refine ⟨.ret d, ?_, h2⟩
  simp only [gTry, h, hm, h1, hn, and_self, if_true]
theorem e_xf {i : Nat} {C : Addr} {f : Str} {ns : List Str} {es : List D} {d : D} (hc : c[i]? = some (some (.exc C ns es))) (h : lookD ns es f = some d) : gXf i C f c = some d := by
  unfold gXf
  rw [hc]
  exact (if_pos rfl).trans h
/-! a body that returns a new list whose last item is its own -/
def WpM (g : GM) (c : Env) (P : List D × List D → Prop) : Prop := ∃ x, g c = some x ∧ P x
theorem wm_seq {g2 : GM} {P : List D × List D → Prop} (h : Wp g1 c fun o => ∃ c', o = .nx c' ∧ WpM g2 c' P) : WpM (gMSeq g1 g2) c P := by
  obtain ⟨o, h1, c', rfl, x, h2, h3⟩ := h
  exact ⟨x, by unfold gMSeq; rw [h1]; exact h2, h3⟩
theorem wm_ret {i : Nat} {ga : GA} {ds es : List D} {P : List D × List D → Prop} (hc : c[i]? = some (some (.own es))) (h : ga c = some ds) (hl : ds.length < sizeLine) (hP : P (ds, es)) : WpM (gMRet i ga) c P :=
  ⟨_, by unfold gMRet; rw [hc]; show (match ga c with | some ds => if ds.length < sizeLine then some (ds, es) else none | none => none) = _; rw [h]; exact if_pos hl, hP⟩
theorem mm_ex {n nn : Nat} {g : GM} {ds : List D} {S : List D × List D → Prop} (hl : ds.length = n) (h : WpM g (VL.envOf nn ds) S) : ∃ r, mmOf n nn g ds = some r ∧ S r := by
  obtain ⟨x, h1, h2⟩ := h
  exact ⟨x, by unfold mmOf; rw [if_pos hl, h1], h2⟩
end
end VL
end

section
/-! VQ: the drawing defs that the laws have in common. -/
namespace VL
open PySem PySem.Spec PyProof.Rows L2
def gCell : GS :=
 (gSeq (gIf (gB (g2 dLt (gLook 1) (gCall fLen (VL.gCons (gLook 0) VL.gNil)))) (gRet (g2 dIx (gLook 0) (gLook 1))) gNext)
 (gSeq (gAsg (gC (.int 17)) (fName 2))
 (gSeq (gFor (gIt (gVar 0)) (fName 3) (gAsg (g2 dMod (gCall fInt (VL.gCons (g2 dAdd (g2 dMul (gLook 2) (gC (.int 31))) (g2 dMod (gCall fInt (VL.gCons (gLook 3) VL.gNil)) (gC (.int 1000003)))) VL.gNil)) (gC (.int 1000003))) (fName 2)))
 (gRet (g2 dMod (gCall fInt (VL.gCons (g2 dMul (g2 dMul (g2 dAdd (gLook 2) (gC (.int 7))) (g2 dAdd (gLook 1) (gC (.int 3)))) (gC (.int 69621))) VL.gNil)) (gC (.int 2147483647)))))))
def gDig : GS :=
 (gSeq (gAsgN 2 (gLen VL.gNil))
 (gSeq (gAsg (gCall fInt (VL.gCons (gLook 0) VL.gNil)) (fName 3))
 (gSeq (gIf (gB (g2 dGe (gLook 3) (g2 dPow (gC (.int 10)) (gC (.int 18))))) (gSeq (gAsg (g2 dMod (gCall fInt (VL.gCons (g2 dSub (gLook 3) (g2 dPow (gC (.int 10)) (gC (.int 18)))) VL.gNil)) (g2 dPow (gC (.int 10)) (gC (.int 64)))) (fName 3))
 (gSeq (gFor (gIt (gVar 1)) (fName 4) (gSeq (gAppend 2 (g2 dMod (gCall fInt (VL.gCons (gLook 3) VL.gNil)) (gLook 4)))
 (gAsg (g2 dFdiv (gCall fInt (VL.gCons (gLook 3) VL.gNil)) (gLook 4)) (fName 3))))
 (gRet (gVar 2)))) gNext)
 (gSeq (gAsg (g2 dMod (gCall fInt (VL.gCons (gLook 3) VL.gNil)) (gC (.int 2147483629))) (fName 5))
 (gSeq (gFor (gRg1 (VL.gCons (gCall fLen (VL.gCons (gLook 1) VL.gNil)) VL.gNil)) (fName 6) (gSeq (gAsg (g2 dMod (gCall fInt (VL.gCons (g2 dAdd (g2 dAdd (g2 dMul (gLook 5) (gC (.int 48271))) (g2 dMul (gC (.int 974711)) (gLook 6))) (gC (.int 12345))) VL.gNil)) (gC (.int 2147483647))) (fName 5))
 (gSeq (gAsg (g2 dMod (gCall fInt (VL.gCons (g2 dMul (gLook 5) (g2 dAdd (g2 dFdiv (gLook 5) (gC (.int 65537))) (gC (.int 3)))) VL.gNil)) (gC (.int 2147483629))) (fName 7))
 (gAppend 2 (g2 dMod (g2 dFdiv (gLook 7) (gC (.int 19))) (g2 dIx (gLook 1) (gLook 6)))))))
 (gRet (gVar 2)))))))
def gWhole : GS :=
 (gRet (gBl (gAnd (gB (gIsi "int" (gLook 0))) (gB (gBl (gNot (gB (gIsi "bool" (gLook 0)))))))))
abbrev iD (xs : List Int) : List D := xs.map D.int
theorem atI_nat {α : Type} {xs : List α} {k : Nat} {x : α} (h : xs[k]? = some x) : atI xs (k : Int) = some x := by
  unfold atI ixN
  have hk : k < xs.length := (List.getElem?_eq_some_iff.mp h).1
  rw [if_pos (by omega), if_pos (by omega)]
  exact h
theorem d_ix {d : D} {ds : List D} {k : Nat} {x : D} (hd : d.items = some ds) (h : ds[k]? = some x) : dIx d (.int k) = some x := by
  unfold dIx
  cases d with
  | str _ => cases hd
  | _ => simp only [hd]; exact atI_nat h
theorem d_mod {i j : Int} (h : 0 < j) : dMod (.int i) (.int j) = some (.int (i % j)) := if_pos h
theorem log_small {j : Int} (h : 0 < j) (h2 : j < 2 ^ 200) : j.natAbs.log2 < 9000 := by
  have h3 : j.natAbs < 2 ^ 200 := by omega
  have h4 : j.natAbs.log2 < 200 := (Nat.log2_lt (by omega)).mpr h3
  omega
theorem d_fdiv {i j : Int} (h : 0 < j) (h2 : j < 2 ^ 200) : dFdiv (.int i) (.int j) = some (.int (i / j)) := if_pos (show CDivW i j from ⟨h, log_small h h2⟩)
theorem d_mul {i j : Int} (h : CMul i j) : dMul (.int i) (.int j) = some (.int (i * j)) := if_pos h
theorem d_pow {i j : Int} (h : CPow i j) : dPow (.int i) (.int j) = some (.int (i ^ j.toNat)) := if_pos h
theorem cmul_r {i j : Int} (h1 : -(2 ^ 64) < j) (h2 : j < 2 ^ 64) : CMul i j := .inr ⟨h1, h2⟩
theorem cmul_l {i j : Int} (h1 : -(2 ^ 64) < i) (h2 : i < 2 ^ 64) : CMul i j := .inl ⟨h1, h2⟩
theorem e_c {d : D} {c : Env} : gC d c = some d := rfl
theorem whole_int (i : Int) : mOf 1 1 gWhole [.int i] = some (.val (.bl true)) := rfl


local macro_rules
  | `(tactic| trivial) => `(tactic| (simp [VL.envOf, VL.g2, gVar, gLook, gC, gCall, VL.gCons, VL.gNil, VL.gTup, gB, gTru, gBl, gNot, gAnd, gOr, gFn, gIt, D.iter, D.items, D.tru, fInt, fLen, dAdd, dSub, dCmp, dLt, dLe, dGt, dGe, d_mod, d_fdiv, d_mul, d_pow, frzAll, frzCell, fName, *]; done))
theorem cell_run (xs : List Int) (k : Nat) (hk : k < 1000) : ∃ n : Int, mOf 2 4 gCell [.scr (iD xs), .int (k : Nat)] = some (.val (.int n)) := by
  by_cases h : k < xs.length
  · refine ⟨xs[k], m_val rfl ?_⟩
    refine wp_seq (wp_ift (by trivial) (wp_ret (d := .int xs[k]) ?_ rfl))
    show dIx (.scr (iD xs)) (.int k) = _
    exact d_ix rfl (by simp [iD, h])
  · have : ∃ d, mOf 2 4 gCell [.scr (iD xs), .int (k : Nat)] = some (.val d) ∧ ∃ n, d = .int n := by
      refine m_ex rfl ?_
      refine wp_seq (wp_iff (by trivial) (wp_next ?_))
      refine wp_seq (wp_set (d := .int 17) rfl ?_)
      refine wp_seq (wp_for (ds := iD xs) rfl ?_)
      refine wpl_all (fun _ c => ∃ (s : Int) (y : Option Cell), 0 ≤ s ∧ s < 1000003 ∧ c = [some (.fz (.scr (iD xs))), some (.fz (.int k)), some (.fz (.int s)), y]) ?_ ?_ ?_
      · exact ⟨17, none, by decide, by decide, rfl⟩
      · rintro done x rest c - ⟨s, y, h1, h2, rfl⟩
        refine ⟨_, rfl, ?_⟩
        have m1 : CMul s 31 := cmul_r (by decide) (by decide)
        refine wp_set (d := .int ((s * 31 + x % 1000003) % 1000003)) (by trivial) ?_
        exact ⟨_, _, Int.emod_nonneg _ (by decide), Int.emod_lt_of_pos _ (by decide), rfl⟩
      · rintro c ⟨s, y, h1, h2, rfl⟩
        have m1 : CMul (s + 7) ((k : Int) + 3) := cmul_r (by omega) (by omega)
        have m2 : CMul ((s + 7) * ((k : Int) + 3)) 69621 := cmul_r (by decide) (by decide)
        refine wp_ret (d := .int (((s + 7) * ((k : Int) + 3) * 69621) % 2147483647)) (by trivial) ⟨_, rfl, _, rfl⟩
    obtain ⟨d, h1, n, rfl⟩ := this
    exact ⟨n, h1⟩
/-- the digits are below the sizes -/
def Dig (ds sz : List Int) : Prop := ds.length = sz.length ∧ ∀ (i : Nat) (d s : Int), ds[i]? = some d → sz[i]? = some s → 0 ≤ d ∧ d < s
theorem dig_snoc {ds done : List Int} {x d : Int} (h : Dig ds done) (h1 : 0 ≤ d) (h2 : d < x) : Dig (ds ++ [d]) (done ++ [x]) := by
  refine ⟨by simp [h.1], fun i e s he hs => ?_⟩
  by_cases hi : i < ds.length
  · rw [List.getElem?_append_left hi] at he
    rw [List.getElem?_append_left (by rw [← h.1]; exact hi)] at hs
    exact h.2 i e s he hs
  · rw [List.getElem?_append_right (by omega)] at he
    rw [List.getElem?_append_right (by rw [← h.1]; omega)] at hs
    have hl := h.1
    have e0 : i - ds.length = 0 := by
      have := (List.getElem?_eq_some_iff.mp he).1
      simp at this
      omega
    rw [e0] at he
    rw [← hl, e0] at hs
    cases he; cases hs
    exact ⟨h1, h2⟩
theorem dig_run (n : Int) (sz : List Int) (hs : ∀ s ∈ sz, 0 < s ∧ s < 2 ^ 200) (hl : sz.length < 10000) : ∃ ds : List Int, mOf 2 8 gDig [.int n, .lst (iD sz)] = some (.val (.lst (iD ds))) ∧ Dig ds sz := by
  have key : ∃ d, mOf 2 8 gDig [.int n, .lst (iD sz)] = some (.val d) ∧ ∃ ds, d = .lst (iD ds) ∧ Dig ds sz := by
    refine m_ex rfl ?_
    have p1 : CPow 10 18 := ⟨by decide, by decide, by decide⟩
    have p2 : CPow 10 64 := ⟨by decide, by decide, by decide⟩
    refine wp_seq (wp_asgN (ds := []) rfl ?_)
    refine wp_seq (wp_set (d := .int n) rfl ?_)
    refine wp_seq (wp_if (b := decide (10 ^ 18 ≤ n)) (by trivial) (fun hc => ?_) (fun hc => wp_next ?_))
    · have p3 : (0 : Int) < 10 ^ 64 := by decide
      refine wp_seq (wp_set (d := .int ((n - 10 ^ 18) % 10 ^ 64)) (by trivial) ?_)
      refine wp_seq (wp_for (ds := iD sz) rfl ?_)
      refine wpl_all (fun done c => ∃ (r : Int) (ds : List Int) (y : Option Cell), Dig ds done ∧ c = [some (.fz (.int n)), some (.fz (.lst (iD sz))), some (.own (iD ds)), some (.fz (.int r)), y, none, none, none]) ?_ ?_ ?_
      · exact ⟨_, [], none, ⟨rfl, by simp⟩, rfl⟩
      · rintro done x rest c q ⟨r, ds, y, hd, rfl⟩
        have hx := hs x (by rw [q]; simp)
        have hx1 := hx.1
        have hx2 := hx.2
        have hlen : ds.length < 10000 := by
          have := congrArg List.length q
          simp at this
          have := hd.1
          omega
        refine ⟨_, rfl, ?_⟩
        refine wp_seq (wp_append (ds := iD ds) (d := .int (r % x)) rfl (by trivial) (by simp [iD]; unfold sizeLine; omega) ?_)
        have m1 : dFdiv (.int r) (.int x) = some (.int (r / x)) := d_fdiv hx1 hx2
        refine wp_set (d := .int (r / x)) (by trivial) ?_
        exact ⟨_, ds ++ [r % x], _, dig_snoc hd (Int.emod_nonneg _ (by omega)) (Int.emod_lt_of_pos _ hx1), by simp [iD]; exact ⟨rfl, rfl⟩⟩
      · rintro c ⟨r, ds, y, hd, rfl⟩
        exact wp_ret (d := .lst (iD ds)) rfl ⟨_, rfl, ds, rfl, hd⟩
    · refine wp_seq (wp_set (d := .int (n % 2147483629)) (by trivial) ?_)
      refine wp_seq (wp_for (ds := rgD 0 sz.length) ?_ ?_)
      · have h := e_rg1 (c := [some (.fz (.int n)), some (.fz (.lst (iD sz))), some (.own []), some (.fz (.int n)), none, some (.fz (.int (n % 2147483629))), none, none]) (n := (sz.length : Nat)) (ga := VL.gCons (gCall fLen (VL.gCons (gLook 1) VL.gNil)) VL.gNil) (by trivial) (by omega) (by omega)
        exact h
      refine wpl_rg (fun k c => ∃ (s : Int) (ds : List Int) (y z : Option Cell), 0 ≤ s ∧ s < 2147483647 ∧ Dig ds (sz.take k) ∧ c = [some (.fz (.int n)), some (.fz (.lst (iD sz))), some (.own (iD ds)), some (.fz (.int n)), none, some (.fz (.int s)), y, z]) ?_ ?_ ?_
      · exact ⟨_, [], none, none, Int.emod_nonneg _ (by decide), by have := Int.emod_lt_of_pos n (show (0 : Int) < 2147483629 by decide); omega, ⟨by simp, by simp⟩, rfl⟩
      · rintro k c hk ⟨s, ds, y, z, h0, h1, hd, rfl⟩
        have hx := hs sz[k] (List.getElem_mem _)
        have hx1 := hx.1
        have hlen : ds.length = k := by rw [hd.1, List.length_take]; omega
        refine ⟨_, rfl, ?_⟩
        have m1 : CMul s 48271 := cmul_r (by decide) (by decide)
        have m2 : CMul 974711 (k : Int) := cmul_l (by decide) (by decide)
        have e0 := Int.emod_nonneg (s * 48271 + 974711 * (k : Int) + 12345) (show (2147483647 : Int) ≠ 0 by decide)
        have e1 := Int.emod_lt_of_pos (s * 48271 + 974711 * (k : Int) + 12345) (show (0 : Int) < 2147483647 by decide)
        refine wp_seq (wp_set (d := .int ((s * 48271 + 974711 * (k : Int) + 12345) % 2147483647)) (by trivial) ?_)
        generalize (s * 48271 + 974711 * (k : Int) + 12345) % 2147483647 = t at e0 e1 ⊢
        have m3 : CMul t (t / 65537 + 3) := cmul_l (by omega) (by omega)
        have m4 : dFdiv (.int t) (.int 65537) = some (.int (t / 65537)) := d_fdiv (by decide) (by decide)
        refine wp_seq (wp_set (d := .int (t * (t / 65537 + 3) % 2147483629)) (by trivial) ?_)
        generalize t * (t / 65537 + 3) % 2147483629 = u
        have m5 : dFdiv (.int u) (.int 19) = some (.int (u / 19)) := d_fdiv (by decide) (by decide)
        have m6 : dIx (.lst (iD sz)) (.int (k : Nat)) = some (.int sz[k]) := d_ix rfl (by simp [iD, hk])
        refine wp_append (ds := iD ds) (d := .int (u / 19 % sz[k])) rfl (by trivial) (by simp [iD]; unfold sizeLine; omega) ?_
        refine ⟨t, ds ++ [u / 19 % sz[k]], _, _, e0, e1, ?_, by simp [iD]; exact ⟨rfl, rfl⟩⟩
        rw [List.take_succ, List.getElem?_eq_getElem hk]
        exact dig_snoc hd (Int.emod_nonneg _ (by omega)) (Int.emod_lt_of_pos _ hx1)
      · rintro c ⟨s, ds, y, z, h0, h1, hd, rfl⟩
        refine wp_ret (d := .lst (iD ds)) rfl ⟨_, rfl, ds, rfl, ?_⟩
        rw [List.take_length] at hd
        exact hd
  obtain ⟨d, h1, ds, rfl, h2⟩ := key
  exact ⟨ds, h1, h2⟩
end VL
end

section
/-! VR: plain types told as data; == and slices on them. -/
namespace VL
open PySem PySem.Spec PyProof.Rows L2
/-- a plain type that is told as data: == is = -/
structure Emb {α : Type} [DecidableEq α] (e : α → D) (n : Nat) where
  p : α → PyData
  hp : ∀ a, (e a).py = some (p a)
  ev : ∀ a b, PyData.eqv (p a) (p b) = decide (a = b)
  ly : ∀ a, (p a).canLay0 = true
  dp : ∀ a, (p a).depth ≤ n
theorem dEqB_of {x y : D} {b : Bool} (h : dEqG x y = some b) : dEqB x y = some b := by
  unfold dEqB
  split
  · rename_i i j
    unfold dEqG at h
    simp only [D.py] at h
    split at h
    · rw [← h]; simp only [PyData.eqv]; exact congrArg some (Bool.eq_iff_iff.mpr (by simp))
    · cases h
  · rename_i a c
    unfold dEqG at h
    simp only [D.py] at h
    split at h
    · rw [← h]; simp [PyData.eqv]; exact Bool.beq_eq_decide_eq a c
    · cases h
  · exact h
section
variable {α β γ : Type} [DecidableEq α] [DecidableEq β] [DecidableEq γ] {e : α → D} {f : β → D} {g : γ → D} {n m k : Nat}
theorem Emb.eqB (h : Emb e n) (hn : n ≤ 64) (a b : α) : dEqB (e a) (e b) = some (decide (a = b)) := by
  refine dEqB_of ?_
  unfold dEqG
  rw [h.hp, h.hp]
  have s : ∀ x, SeqAt.shaped (h.p x) = true := fun x => by
    unfold SeqAt.shaped
    rw [h.ly x, Bool.true_and]
    exact decide_eq_true (Nat.le_trans (h.dp x) hn)
  show (if SeqAt.shaped (h.p a) = true ∧ SeqAt.shaped (h.p b) = true then some (PyData.eqv (h.p a) (h.p b)) else none) = _
  rw [if_pos ⟨s a, s b⟩, h.ev]
theorem Emb.eq (h : Emb e n) (hn : n ≤ 64) (a b : α) : dEq (e a) (e b) = some (.bl (decide (a = b))) := by
  unfold dEq
  rw [h.eqB hn]; rfl
theorem Emb.ne (h : Emb e n) (hn : n ≤ 64) (a b : α) : dNe (e a) (e b) = some (.bl (!decide (a = b))) := by
  unfold dNe
  rw [h.eqB hn]; rfl
theorem pyL_map (h : Emb e n) : ∀ xs : List α, D.pyL (xs.map e) = some (xs.map h.p)
  | [] => rfl
  | x :: xs => by
    rw [List.map_cons]
    unfold D.pyL
    rw [h.hp, pyL_map h xs]
    rfl
theorem eqvAll_mapE (h : Emb e n) : ∀ xs ys : List α, PyData.eqvAll (xs.map h.p) (ys.map h.p) = decide (xs = ys)
  | [], [] => by simp [PyData.eqvAll]
  | [], _ :: _ => by simp [PyData.eqvAll]
  | _ :: _, [] => by simp [PyData.eqvAll]
  | x :: xs, y :: ys => by
    rw [List.map_cons, List.map_cons, PyData.eqvAll, h.ev x y, eqvAll_mapE h xs ys, ← Bool.decide_and]
    exact decide_eq_decide.mpr (by rw [List.cons.injEq])
theorem layAll_mapE (h : Emb e n) : ∀ xs : List α, PyData.canLayAll0 (xs.map h.p) = true
  | [] => by simp [PyData.canLayAll0]
  | x :: xs => by rw [List.map_cons, PyData.canLayAll0, h.ly x, layAll_mapE h xs]; rfl
theorem depthAll_mapE (h : Emb e n) : ∀ xs : List α, PyData.depthAll (xs.map h.p) ≤ n
  | [] => by simp [PyData.depthAll]
  | x :: xs => by rw [List.map_cons, PyData.depthAll]; exact Nat.max_le.mpr ⟨h.dp x, depthAll_mapE h xs⟩
def Emb.int : Emb D.int 0 where
  p := .int
  hp _ := rfl
  ev a b := by simp only [PyData.eqv]; exact Bool.eq_iff_iff.mpr (by simp)
  ly _ := by simp [PyData.canLay0]
  dp _ := by simp [PyData.depth]
def Emb.tup (h : Emb e n) : Emb (fun xs : List α => .tup (xs.map e)) (n + 1) where
  p xs := .tuple (xs.map h.p)
  hp xs := by simp only [D.py]; rw [pyL_map h]; rfl
  ev xs ys := by simp only [PyData.eqv]; exact eqvAll_mapE h xs ys
  ly xs := by simp only [PyData.canLay0]; exact layAll_mapE h xs
  dp xs := by simp only [PyData.depth]; exact Nat.succ_le_succ (depthAll_mapE h xs)
def Emb.lst (h : Emb e n) : Emb (fun xs : List α => .lst (xs.map e)) (n + 1) where
  p xs := .list (xs.map h.p)
  hp xs := by simp only [D.py]; rw [pyL_map h]; rfl
  ev xs ys := by simp only [PyData.eqv]; exact eqvAll_mapE h xs ys
  ly xs := by simp only [PyData.canLay0]; exact layAll_mapE h xs
  dp xs := by simp only [PyData.depth]; exact Nat.succ_le_succ (depthAll_mapE h xs)
def Emb.pair (h : Emb e n) (h' : Emb f m) : Emb (fun x : α × β => .tup [e x.1, f x.2]) (max n m + 1) where
  p x := .tuple [h.p x.1, h'.p x.2]
  hp x := by simp only [D.py, D.pyL, h.hp, h'.hp]; rfl
  ev x y := by
    simp only [PyData.eqv, PyData.eqvAll, Bool.and_true]
    rw [h.ev, h'.ev, ← Bool.decide_and]
    exact decide_eq_decide.mpr ⟨fun q => Prod.ext q.1 q.2, fun q => by rw [q]; exact ⟨rfl, rfl⟩⟩
  ly x := by simp only [PyData.canLay0, PyData.canLayAll0, h.ly, h'.ly]; rfl
  dp x := by
    have h1 := h.dp x.1
    have h2 := h'.dp x.2
    simp only [PyData.depth, PyData.depthAll]
    omega
def Emb.triple (h : Emb e n) (h' : Emb f m) (h'' : Emb g k) : Emb (fun x : α × β × γ => .tup [e x.1, f x.2.1, g x.2.2]) (max n (max m k) + 1) where
  p x := .tuple [h.p x.1, h'.p x.2.1, h''.p x.2.2]
  hp x := by simp only [D.py, D.pyL, h.hp, h'.hp, h''.hp]; rfl
  ev x y := by
    simp only [PyData.eqv, PyData.eqvAll, Bool.and_true]
    rw [h.ev, h'.ev, h''.ev, ← Bool.decide_and, ← Bool.decide_and]
    exact decide_eq_decide.mpr ⟨fun q => Prod.ext q.1 (Prod.ext q.2.1 q.2.2), fun q => by rw [q]; exact ⟨rfl, rfl, rfl⟩⟩
  ly x := by simp only [PyData.canLay0, PyData.canLayAll0, h.ly, h'.ly, h''.ly]; rfl
  dp x := by
    have h1 := h.dp x.1
    have h2 := h'.dp x.2.1
    have h3 := h''.dp x.2.2
    simp only [PyData.depth, PyData.depthAll]
    omega
end
/-! symbols, forms, rules -/
abbrev Lt := Fin 128
inductive Sy where
  | v (i : Int)
  | l (c : Lt)
  deriving DecidableEq
def ltS (c : Lt) : Str := ⟨#[c.val]⟩
def Sy.D : Sy → VL.D
  | .v i => .int i
  | .l c => .str (ltS c)
abbrev Form := List Sy
abbrev Rule := Form × Form
abbrev fD (f : Form) : D := .tup (f.map Sy.D)
abbrev rD (r : Rule) : D := .tup [fD r.1, fD r.2]
def alD (al : List Lt) : D := .str ⟨(al.map Fin.val).toArray⟩
def Emb.sy : Emb Sy.D 0 where
  p
    | .v i => .int i
    | .l c => .str (ltS c)
  hp a := by cases a <;> rfl
  ev a b := by
    cases a with
    | v i => cases b with
      | v j => simp only [PyData.eqv]; exact Bool.eq_iff_iff.mpr (by simp)
      | l c => simp [PyData.eqv]
    | l c => cases b with
      | v j => simp [PyData.eqv]
      | l d =>
        simp only [PyData.eqv]
        rw [Bool.beq_eq_decide_eq]
        refine decide_eq_decide.mpr ⟨fun q => ?_, fun q => ?_⟩
        · have q2 : c.val = d.val := by
            unfold ltS at q
            simpa using q
          rw [Fin.ext q2]
        · cases q; rfl
  ly a := by
    cases a with
    | v i => simp [PyData.canLay0]
    | l c =>
      have h := c.isLt
      simp only [PyData.canLay0]
      unfold PyData.strOk ltS
      simp
      omega
  dp a := by cases a <;> simp [PyData.depth]
def Emb.form : Emb fD 1 := Emb.sy.tup
def Emb.rule : Emb rD 2 := Emb.form.pair Emb.form
/-! slices -/
theorem cut_map {α : Type} (e : α → D) (xs : List α) (lo hi : Option Int) : cutD (xs.map e) lo hi = ((xs.drop (HT.sIx xs.length 0 lo)).take (HT.sIx xs.length xs.length hi - HT.sIx xs.length 0 lo)).map e := by
  unfold cutD
  rw [List.length_map, List.map_take, List.map_drop]
theorem cut_mid {α : Type} (e : α → D) (xs : List α) (p m : Nat) (h : p ≤ xs.length) : cutD (xs.map e) (some (p : Int)) (some ((p : Int) + (m : Nat))) = ((xs.drop p).take m).map e := by
  rw [cut_map, show (p : Int) + (m : Nat) = ((p + m : Nat) : Int) by simp, HT.sIx_nat, HT.sIx_nat, Nat.min_eq_left h]
  congr 1
  by_cases h2 : p + m ≤ xs.length
  · rw [Nat.min_eq_left h2, show p + m - p = m by omega]
  · rw [Nat.min_eq_right (by omega), List.take_of_length_le (by rw [List.length_drop]; omega), List.take_of_length_le (by rw [List.length_drop]; omega)]
theorem cut_pre {α : Type} (e : α → D) (xs : List α) (p : Nat) : cutD (xs.map e) none (some (p : Int)) = (xs.take p).map e := by
  rw [cut_map, HT.sIx_nat, HT.sIx_none]
  congr 1
  rw [List.drop_zero, Nat.sub_zero]
  by_cases h : p ≤ xs.length
  · rw [Nat.min_eq_left h]
  · rw [Nat.min_eq_right (by omega), List.take_of_length_le (Nat.le_refl _), List.take_of_length_le (by omega)]
theorem cut_suf {α : Type} (e : α → D) (xs : List α) (p : Nat) : cutD (xs.map e) (some (p : Int)) none = (xs.drop p).map e := by
  rw [cut_map, HT.sIx_nat, HT.sIx_none]
  congr 1
  by_cases h : p ≤ xs.length
  · rw [Nat.min_eq_left h, List.take_of_length_le (by rw [List.length_drop]; omega)]
  · rw [Nat.min_eq_right (by omega), List.drop_of_length_le (Nat.le_refl _), List.drop_of_length_le (by omega), List.take_nil]
theorem cut_any {α : Type} (e : α → D) (xs : List α) (p m : Nat) : cutD (xs.map e) (some (p : Int)) (some ((p : Int) + (m : Nat))) = ((xs.drop p).take m).map e := by
  by_cases h : p ≤ xs.length
  · exact cut_mid e xs p m h
  · rw [cut_map, show (p : Int) + (m : Nat) = ((p + m : Nat) : Int) by simp, HT.sIx_nat, HT.sIx_nat, List.drop_of_length_le (show xs.length ≤ min p xs.length by omega), List.drop_of_length_le (show xs.length ≤ p by omega), List.take_nil, List.take_nil]
theorem findIdx_at {α : Type} {p : α → Bool} {x : α} {rest : List α} : ∀ {done : List α}, (∀ y ∈ done, p y = false) → p x = true → (done ++ x :: rest).findIdx? p = some done.length
  | [], _, h => by simp [List.findIdx?_cons, h]
  | y :: ys, h, hx => by
    rw [List.cons_append, List.findIdx?_cons, h y (List.mem_cons_self ..), findIdx_at (fun z hz => h z (List.mem_cons_of_mem _ hz)) hx]
    rfl
section
theorem e_len {c : Env} {g : GE} {d : D} {ds : List D} (h : g c = some d) (hd : d = .lst ds ∨ d = .tup ds ∨ d = .scr ds) : gCall fLen (VL.gCons g VL.gNil) c = some (.int (ds.length : Nat)) := by
  refine e_call (e_cons h rfl) ?_
  rcases hd with rfl | rfl | rfl <;> rfl
theorem e_rgLen {c : Env} {g : GE} {d : D} {ds : List D} (h : g c = some d) (hd : d = .lst ds ∨ d = .tup ds ∨ d = .scr ds) (hl : ds.length < 100000) : gRg1 (VL.gCons (gCall fLen (VL.gCons g VL.gNil)) VL.gNil) c = some (rgD 0 ds.length) := by
  have := e_rg1 (c := c) (n := (ds.length : Nat)) (ga := VL.gCons (gCall fLen (VL.gCons g VL.gNil)) VL.gNil) (e_cons (e_len h hd) rfl) (by omega) (by omega)
  rw [this]
  rfl
theorem e_ln {c : Env} {gs : GA} {xs : List D} (h : gs c = some xs) (hl : xs.length ≤ sizeLine) : gLen gs c = some xs := by
  unfold gLen
  rw [h]
  first | exact if_pos hl | rfl
theorem ix_map {α : Type} {e : α → D} {xs : List α} {k : Nat} {x : α} {d : D} (hd : d.items = some (xs.map e)) (h : xs[k]? = some x) : dIx d (.int (k : Nat)) = some (e x) := d_ix hd (by simp [h])
theorem ix_mod {α : Type} {e : α → D} {xs : List α} (x : Int) {d : D} (hd : d.items = some (xs.map e)) (h : 0 < xs.length) : ∃ y ∈ xs, dIx d (.int (x % (xs.length : Nat))) = some (e y) := by
  have h1 := Int.emod_nonneg x (show (xs.length : Int) ≠ 0 by omega)
  have h2 := Int.emod_lt_of_pos x (show (0 : Int) < (xs.length : Int) by omega)
  obtain ⟨k, hk⟩ := Int.eq_ofNat_of_zero_le h1
  rw [hk] at h2 ⊢
  have h3 : k < xs.length := by omega
  exact ⟨xs[k], List.getElem_mem _, ix_map hd (List.getElem?_eq_getElem h3)⟩
theorem iter_al (al : List Lt) : (alD al).iter = some ((al.map Sy.l).map Sy.D) := by
  show some ((al.map Fin.val).map fun n => D.str ⟨#[n]⟩) = _
  rw [List.map_map, List.map_map]
  rfl
end
end VL
end

section
/-! VS: texts as lists of letters; digits with int(..); the try; looks. -/
namespace VL
open PySem PySem.Spec PyProof.Rows L2
theorem add_al {x y : List Lt} (h : x.length + y.length ≤ sizeLine) : dAdd (alD x) (alD y) = some (alD (x ++ y)) := by
  have e1 : (⟨(x.map Fin.val).toArray⟩ : Str).length = x.length := by show (x.map Fin.val).toArray.size = _; simp
  have e2 : (⟨(y.map Fin.val).toArray⟩ : Str).length = y.length := by show (y.map Fin.val).toArray.size = _; simp
  show (if (⟨(x.map Fin.val).toArray⟩ : Str).length + (⟨(y.map Fin.val).toArray⟩ : Str).length ≤ sizeLine then some (D.str (⟨(x.map Fin.val).toArray⟩ ++ ⟨(y.map Fin.val).toArray⟩)) else none) = _
  rw [e1, e2, if_pos h]
  show some (D.str ⟨(x.map Fin.val).toArray ++ (y.map Fin.val).toArray⟩) = some (D.str ⟨((x ++ y).map Fin.val).toArray⟩)
  rw [List.map_append]
  simp
theorem len_al {x : List Lt} (h : x.length ≤ sizeLine) : fLen [alD x] = some (.int (x.length : Nat)) := by
  have e1 : (⟨(x.map Fin.val).toArray⟩ : Str).length = x.length := by show (x.map Fin.val).toArray.size = _; simp
  show (if (⟨(x.map Fin.val).toArray⟩ : Str).length ≤ sizeLine then some (D.int (⟨(x.map Fin.val).toArray⟩ : Str).length) else none) = _
  rw [e1, if_pos h]
theorem ix_al {x : List Lt} {k : Nat} {c : Lt} (hl : x.length ≤ sizeLine) (h : x[k]? = some c) : dIx (alD x) (.int (k : Nat)) = some (Sy.l c).D := by
  have e1 : (⟨(x.map Fin.val).toArray⟩ : Str).length = x.length := by show (x.map Fin.val).toArray.size = _; simp
  show (if (⟨(x.map Fin.val).toArray⟩ : Str).length ≤ sizeLine then (atI (x.map Fin.val).toArray.toList (k : Int)).map (fun c => D.str ⟨#[c]⟩) else none) = _
  rw [e1, if_pos hl, atI_nat (x := c.val) (by simp [h])]
  rfl
theorem cut_al {x : List Lt} (lo hi : Option Int) (hl : x.length ≤ sizeLine) : dCut (alD x) lo hi = some (alD ((x.drop (HT.sIx x.length 0 lo)).take (HT.sIx x.length x.length hi - HT.sIx x.length 0 lo))) := by
  have e1 : (⟨(x.map Fin.val).toArray⟩ : Str).length = x.length := by show (x.map Fin.val).toArray.size = _; simp
  show (if (⟨(x.map Fin.val).toArray⟩ : Str).length ≤ sizeLine then some (D.str (cutS ⟨(x.map Fin.val).toArray⟩ lo hi)) else none) = _
  rw [e1, if_pos hl]
  unfold cutS
  rw [e1]
  show some (D.str ⟨(((x.map Fin.val).drop _).take _).toArray⟩) = _
  rw [← List.map_drop, ← List.map_take]
  rfl
theorem cut_al_ex {x : List Lt} (lo hi : Option Int) (hl : x.length ≤ sizeLine) : ∃ y : List Lt, dCut (alD x) lo hi = some (alD y) ∧ y.length ≤ x.length :=
  ⟨_, cut_al lo hi hl, by simp [List.length_take, List.length_drop]; omega⟩
theorem strs_al : ∀ ys : List (List Lt), strsOf (ys.map alD) = some (ys.map fun x => ⟨(x.map Fin.val).toArray⟩)
  | [] => rfl
  | y :: ys => by
    show (match strsOf (ys.map alD) with | some xs => some (_ :: xs) | none => none) = _
    rw [strs_al ys]; rfl
theorem glue_al : ∀ (ys : List (List Lt)) (a : Array Nat), (ys.map fun x => (⟨(x.map Fin.val).toArray⟩ : Str)).foldl (fun acc p => acc ++ (#[] : Array Nat) ++ p.cps) a = a ++ (ys.flatten.map Fin.val).toArray
  | [], a => by simp
  | y :: ys, a => by
    rw [List.map_cons, List.foldl_cons, glue_al ys]
    simp
theorem join_al (ys : List (List Lt)) : Txt.join (⟨#[]⟩ : Str) (ys.map fun x => (⟨(x.map Fin.val).toArray⟩ : Str)) = ⟨(ys.flatten.map Fin.val).toArray⟩ := by
  cases ys with
  | nil => rfl
  | cons y ys =>
    show (⟨(ys.map fun x => (⟨(x.map Fin.val).toArray⟩ : Str)).foldl (fun acc p => acc ++ (#[] : Array Nat) ++ p.cps) (y.map Fin.val).toArray⟩ : Str) = _
    rw [glue_al]
    simp
theorem dJoin_al (ys : List (List Lt)) (h : ys.flatten.length ≤ 10000000) : dJoin (.str "") (.lst (ys.map alD)) = some (alD ys.flatten) := by
  show (match strsOf (ys.map alD) with | some ys => if (ys.map Str.length).sum + ys.length * (0 : Nat) ≤ 16777216 then some (D.str (Txt.join (⟨#[]⟩ : Str) ys)) else none | none => none) = _
  rw [strs_al]
  have e : ((ys.map fun x => (⟨(x.map Fin.val).toArray⟩ : Str)).map Str.length).sum = ys.flatten.length := by
    rw [List.map_map, List.length_flatten]
    congr 1
    apply List.map_congr_left
    intro x _
    show (x.map Fin.val).toArray.size = _
    simp
  show (if ((ys.map fun x => (⟨(x.map Fin.val).toArray⟩ : Str)).map Str.length).sum + _ * 0 ≤ 16777216 then some (D.str (Txt.join (⟨#[]⟩ : Str) (ys.map fun x => (⟨(x.map Fin.val).toArray⟩ : Str)))) else none) = _
  rw [e, Nat.mul_zero, if_pos (by omega), join_al]
  rfl
/-- str of a letter, or of a small number -/
theorem str_lt (c : Lt) : fStr [(Sy.l c).D] = some (alD [c]) := rfl
theorem str_small (i : Int) (h0 : 0 ≤ i) (h1 : i < 16) : ∃ x : List Lt, fStr [.int i] = some (alD x) ∧ x.length ≤ 2 := by
  have : i = 0 ∨ i = 1 ∨ i = 2 ∨ i = 3 ∨ i = 4 ∨ i = 5 ∨ i = 6 ∨ i = 7 ∨ i = 8 ∨ i = 9 ∨ i = 10 ∨ i = 11 ∨ i = 12 ∨ i = 13 ∨ i = 14 ∨ i = 15 := by omega
  rcases this with rfl | rfl | rfl | rfl | rfl | rfl | rfl | rfl | rfl | rfl | rfl | rfl | rfl | rfl | rfl | rfl
  · exact ⟨[48], rfl, by decide⟩
  · exact ⟨[49], rfl, by decide⟩
  · exact ⟨[50], rfl, by decide⟩
  · exact ⟨[51], rfl, by decide⟩
  · exact ⟨[52], rfl, by decide⟩
  · exact ⟨[53], rfl, by decide⟩
  · exact ⟨[54], rfl, by decide⟩
  · exact ⟨[55], rfl, by decide⟩
  · exact ⟨[56], rfl, by decide⟩
  · exact ⟨[57], rfl, by decide⟩
  · exact ⟨[49, 48], rfl, by decide⟩
  · exact ⟨[49, 49], rfl, by decide⟩
  · exact ⟨[49, 50], rfl, by decide⟩
  · exact ⟨[49, 51], rfl, by decide⟩
  · exact ⟨[49, 52], rfl, by decide⟩
  · exact ⟨[49, 53], rfl, by decide⟩
theorem flat_len {α : Type} : ∀ (ys : List (List α)) (m : Nat), (∀ y ∈ ys, y.length ≤ m) → ys.flatten.length ≤ m * ys.length
  | [], _, _ => by simp
  | y :: ys, m, h => by
    have h1 := h y (List.mem_cons_self ..)
    have h2 := flat_len ys m fun z hz => h z (List.mem_cons_of_mem _ hz)
    simp only [List.flatten_cons, List.length_append, List.length_cons, Nat.mul_add]
    omega
/-! the try -/
section
variable {c c1 : Env} {P : Out → Prop}
theorem wp_tryG_ret {i : Nat} {C : Addr} {g : GY} {gs : GS} {d : D} (h : g c = some (.ret d)) (hP : P (.ret d)) : Wp (gTryG i C g gs) c P :=
  ⟨.ret d, by unfold gTryG; rw [h], hP⟩
theorem wp_tryG_nx {i : Nat} {C : Addr} {g : GY} {gs : GS} (h : g c = some (.nx c1)) (hP : P (.nx c1)) : Wp (gTryG i C g gs) c P :=
  ⟨.nx c1, by unfold gTryG; rw [h], hP⟩
theorem wp_tryG_ex {i : Nat} {C : Addr} {g : GY} {gs : GS} {ns : List Str} {es : List D} (h : g c = some (.ex c1 C ns es)) (hn : (c1.set i none).all notExc = true) (hP : Wp gs (c1.set i (some (.exc C ns es))) (fun o => ∃ d, o = .ret d ∧ P (.ret d))) : Wp (gTryG i C g gs) c P := by
  obtain ⟨o, h1, d, rfl, h2⟩ := hP
  refine ⟨.ret d, ?_, h2⟩
  unfold gTryG
  rw [h]
  show (if C = C ∧ (c1.set i none).all notExc = true then _ else none) = _
  rw [if_pos ⟨rfl, hn⟩]
  simp only [h1]
theorem x_val {g : GE} {d : D} (h : g c = some d) : gVal g c = some (.val d) := by unfold gVal; rw [h]
theorem x_callR {m : List D → Option Res} {ga : GA} {ds : List D} {r : Res} (h : ga c = some ds) (hm : m ds = some r) : gCallR m ga c = some r := by unfold gCallR; rw [h]; exact hm
theorem x_nil : gXNil c = some (.inl []) := rfl
theorem x_cons {g : GR} {gs : GRs} {d : D} {ds : List D} (h : g c = some (.val d)) (hs : gs c = some (.inl ds)) : gXCons g gs c = some (.inl (d :: ds)) := by unfold gXCons; rw [h, hs]
theorem x_consR {g : GR} {gs : GRs} {d : D} {C : Addr} {ns : List Str} {es : List D} (h : g c = some (.val d)) (hs : gs c = some (.inr (C, ns, es))) : gXCons g gs c = some (.inr (C, ns, es)) := by unfold gXCons; rw [h, hs]
theorem x_consX {g : GR} {gs : GRs} {C : Addr} {ns : List Str} {es : List D} (h : g c = some (.exn C ns es)) : gXCons g gs c = some (.inr (C, ns, es)) := by unfold gXCons; rw [h]
theorem x_tup {gs : GRs} {ds : List D} (h : gs c = some (.inl ds)) (hl : ds.length ≤ sizeLine) : gXTup gs c = some (.val (.tup ds)) := by unfold gXTup; rw [h]; exact if_pos hl
theorem x_tupX {gs : GRs} {C : Addr} {ns : List Str} {es : List D} (h : gs c = some (.inr (C, ns, es))) : gXTup gs c = some (.exn C ns es) := by unfold gXTup; rw [h]
theorem x_2 {f : D → D → Option D} {ga : GR} {gb : GE} {x y z : D} (h1 : ga c = some (.val x)) (h2 : gb c = some y) (h : f x y = some z) : gX2 f ga gb c = some (.val z) := by unfold gX2; rw [h1]; simp only [h2, h]
theorem x_2X {f : D → D → Option D} {ga : GR} {gb : GE} {C : Addr} {ns : List Str} {es : List D} (h1 : ga c = some (.exn C ns es)) : gX2 f ga gb c = some (.exn C ns es) := by unfold gX2; rw [h1]
theorem y_retV {g : GR} {d : D} (h : g (frzAll c) = some (.val d)) : yRet g c = some (.ret d) := by unfold yRet; rw [h]
theorem y_retX {g : GR} {C : Addr} {ns : List Str} {es : List D} (h : g (frzAll c) = some (.exn C ns es)) : yRet g c = some (.ex (frzAll c) C ns es) := by unfold yRet; rw [h]
theorem y_asgV {i : Nat} {g : GR} {d : D} (h : g c = some (.val d)) : yAsg i g c = some (.nx (c.set i (some (.fz d)))) := by unfold yAsg; rw [h]
theorem y_asgX {i : Nat} {g : GR} {C : Addr} {ns : List Str} {es : List D} (h : g c = some (.exn C ns es)) : yAsg i g c = some (.ex c C ns es) := by unfold yAsg; rw [h]
theorem y_exprV {g : GR} {d : D} (h : g c = some (.val d)) : yExpr g c = some (.nx c) := by unfold yExpr; rw [h]
theorem y_exprX {g : GR} {C : Addr} {ns : List Str} {es : List D} (h : g c = some (.exn C ns es)) : yExpr g c = some (.ex c C ns es) := by unfold yExpr; rw [h]
theorem y_seqN {g1 g2 : GY} {o : Option OutY} (h1 : g1 c = some (.nx c1)) (h2 : g2 c1 = o) : ySeq g1 g2 c = o := by unfold ySeq; rw [h1]; exact h2
theorem y_seqR {g1 g2 : GY} {d : D} (h1 : g1 c = some (.ret d)) : ySeq g1 g2 c = some (.ret d) := by unfold ySeq; rw [h1]
theorem y_seqX {g1 g2 : GY} {C : Addr} {ns : List Str} {es : List D} (h1 : g1 c = some (.ex c1 C ns es)) : ySeq g1 g2 c = some (.ex c1 C ns es) := by unfold ySeq; rw [h1]
theorem y_ift {p : GB} {g1 g2 : GY} {o : Option OutY} (hp : p c = some true) (h : g1 c = o) : yIf p g1 g2 c = o := by unfold yIf; rw [hp]; exact h
theorem y_iff {p : GB} {g1 g2 : GY} {o : Option OutY} (hp : p c = some false) (h : g2 c = o) : yIf p g1 g2 c = o := by unfold yIf; rw [hp]; exact h
theorem wp_retXV {g : GR} {d : D} (h : g (frzAll c) = some (.val d)) (hP : P (.ret d)) : Wp (gRetX g) c P := ⟨_, by unfold gRetX; rw [h], hP⟩
theorem wp_retXX {g : GR} {C : Addr} {ns : List Str} {es : List D} (h : g (frzAll c) = some (.exn C ns es)) (hP : P (.ex C ns es)) : Wp (gRetX g) c P := ⟨_, by unfold gRetX; rw [h], hP⟩
theorem e_imm {g : GE} {d : D} (h : g c = some d) (hi : d.imm = true) : gImm g c = some d := by
  unfold gImm
  rw [h]
  exact if_pos hi
theorem e_isX {i : Nat} {C : Addr} {ns : List Str} {es : List D} {ans : Bool} (hc : c[i]? = some (some (.exc C ns es))) : gIsX i C ans c = some (.bl ans) := by
  unfold gIsX
  rw [hc]
  exact if_pos rfl
end
theorem imm_map {α : Type} {e : α → D} (h : ∀ a, (e a).imm = true) : ∀ xs : List α, D.immL (xs.map e) = true
  | [] => rfl
  | x :: xs => by
    rw [List.map_cons, D.immL, h, imm_map h xs]; rfl
theorem imm_sy (s : Sy) : s.D.imm = true := by cases s <;> rfl
theorem imm_form (f : Form) : (fD f).imm = true := by
  show D.immL _ = true
  exact imm_map imm_sy f
theorem imm_forms (fs : List Form) : (D.tup (fs.map fD)).imm = true := by
  show D.immL _ = true
  exact imm_map imm_form fs
/-! digits with int(..) -/
def gDigI : GS :=
 (gSeq (gAsgN 2 (gLen VL.gNil))
 (gSeq (gAsg (gCall fInt (VL.gCons (gLook 0) VL.gNil)) (fName 3))
 (gSeq (gIf (gB (g2 dGe (gLook 3) (g2 dPow (gC (.int 10)) (gC (.int 18))))) (gSeq (gAsg (g2 dMod (gCall fInt (VL.gCons (g2 dSub (gLook 3) (g2 dPow (gC (.int 10)) (gC (.int 18)))) VL.gNil)) (g2 dPow (gC (.int 10)) (gC (.int 64)))) (fName 3))
 (gSeq (gFor (gIt (gVar 1)) (fName 4) (gSeq (gAppend 2 (g2 dMod (gCall fInt (VL.gCons (gLook 3) VL.gNil)) (gLook 4)))
 (gAsg (g2 dFdiv (gCall fInt (VL.gCons (gLook 3) VL.gNil)) (gLook 4)) (fName 3))))
 (gRet (gVar 2)))) gNext)
 (gSeq (gAsg (g2 dMod (gCall fInt (VL.gCons (gLook 3) VL.gNil)) (gC (.int 2147483629))) (fName 5))
 (gSeq (gFor (gRg1 (VL.gCons (gCall fLen (VL.gCons (gLook 1) VL.gNil)) VL.gNil)) (fName 6) (gSeq (gAsg (g2 dMod (gCall fInt (VL.gCons (g2 dAdd (g2 dAdd (g2 dMul (gLook 5) (gC (.int 48271))) (g2 dMul (gC (.int 974711)) (gLook 6))) (gC (.int 12345))) VL.gNil)) (gC (.int 2147483647))) (fName 5))
 (gSeq (gAsg (g2 dMod (gCall fInt (VL.gCons (g2 dMul (gLook 5) (g2 dAdd (g2 dFdiv (gLook 5) (gC (.int 65537))) (gC (.int 3)))) VL.gNil)) (gC (.int 2147483629))) (fName 7))
 (gAppend 2 (g2 dMod (gCall fInt (VL.gCons (g2 dFdiv (gLook 7) (gC (.int 19))) VL.gNil)) (g2 dIx (gLook 1) (gLook 6)))))))
 (gRet (gVar 2)))))))
local macro_rules
  | `(tactic| trivial) => `(tactic| (simp [VL.envOf, VL.g2, gVar, gLook, gC, gCall, VL.gCons, VL.gNil, VL.gTup, gB, gTru, gBl, gNot, gAnd, gOr, gFn, gIt, D.iter, D.items, D.tru, fInt, fLen, dAdd, dSub, dCmp, dLt, dLe, dGt, dGe, d_mod, d_fdiv, d_mul, d_pow, frzAll, frzCell, fName, *]; done))
theorem digI_run (n : Int) (sz : List Int) (hs : ∀ s ∈ sz, 0 < s ∧ s < 2 ^ 200) (hl : sz.length < 10000) : ∃ ds : List Int, mOf 2 8 gDigI [.int n, .lst (iD sz)] = some (.val (.lst (iD ds))) ∧ Dig ds sz := by
  have key : ∃ d, mOf 2 8 gDigI [.int n, .lst (iD sz)] = some (.val d) ∧ ∃ ds, d = .lst (iD ds) ∧ Dig ds sz := by
    refine m_ex rfl ?_
    have p1 : CPow 10 18 := ⟨by decide, by decide, by decide⟩
    have p2 : CPow 10 64 := ⟨by decide, by decide, by decide⟩
    refine wp_seq (wp_asgN (ds := []) rfl ?_)
    refine wp_seq (wp_set (d := .int n) rfl ?_)
    refine wp_seq (wp_if (b := decide (10 ^ 18 ≤ n)) (by trivial) (fun hc => ?_) (fun hc => wp_next ?_))
    · have p3 : (0 : Int) < 10 ^ 64 := by decide
      refine wp_seq (wp_set (d := .int ((n - 10 ^ 18) % 10 ^ 64)) (by trivial) ?_)
      refine wp_seq (wp_for (ds := iD sz) rfl ?_)
      refine wpl_all (fun done c => ∃ (r : Int) (ds : List Int) (y : Option Cell), Dig ds done ∧ c = [some (.fz (.int n)), some (.fz (.lst (iD sz))), some (.own (iD ds)), some (.fz (.int r)), y, none, none, none]) ?_ ?_ ?_
      · exact ⟨_, [], none, ⟨rfl, by simp⟩, rfl⟩
      · rintro done x rest c q ⟨r, ds, y, hd, rfl⟩
        have hx := hs x (by rw [q]; simp)
        have hx1 := hx.1
        have hx2 := hx.2
        have hlen : ds.length < 10000 := by
          have := congrArg List.length q
          simp at this
          have := hd.1
          omega
        refine ⟨_, rfl, ?_⟩
        refine wp_seq (wp_append (ds := iD ds) (d := .int (r % x)) rfl (by trivial) (by simp [iD]; unfold sizeLine; omega) ?_)
        have m1 : dFdiv (.int r) (.int x) = some (.int (r / x)) := d_fdiv hx1 hx2
        refine wp_set (d := .int (r / x)) (by trivial) ?_
        exact ⟨_, ds ++ [r % x], _, dig_snoc hd (Int.emod_nonneg _ (by omega)) (Int.emod_lt_of_pos _ hx1), by simp [iD]; exact ⟨rfl, rfl⟩⟩
      · rintro c ⟨r, ds, y, hd, rfl⟩
        exact wp_ret (d := .lst (iD ds)) rfl ⟨_, rfl, ds, rfl, hd⟩
    · refine wp_seq (wp_set (d := .int (n % 2147483629)) (by trivial) ?_)
      refine wp_seq (wp_for (ds := rgD 0 sz.length) ?_ ?_)
      · have h := e_rg1 (c := [some (.fz (.int n)), some (.fz (.lst (iD sz))), some (.own []), some (.fz (.int n)), none, some (.fz (.int (n % 2147483629))), none, none]) (n := (sz.length : Nat)) (ga := VL.gCons (gCall fLen (VL.gCons (gLook 1) VL.gNil)) VL.gNil) (by trivial) (by omega) (by omega)
        exact h
      refine wpl_rg (fun k c => ∃ (s : Int) (ds : List Int) (y z : Option Cell), 0 ≤ s ∧ s < 2147483647 ∧ Dig ds (sz.take k) ∧ c = [some (.fz (.int n)), some (.fz (.lst (iD sz))), some (.own (iD ds)), some (.fz (.int n)), none, some (.fz (.int s)), y, z]) ?_ ?_ ?_
      · exact ⟨_, [], none, none, Int.emod_nonneg _ (by decide), by have := Int.emod_lt_of_pos n (show (0 : Int) < 2147483629 by decide); omega, ⟨by simp, by simp⟩, rfl⟩
      · rintro k c hk ⟨s, ds, y, z, h0, h1, hd, rfl⟩
        have hx := hs sz[k] (List.getElem_mem _)
        have hx1 := hx.1
        have hlen : ds.length = k := by rw [hd.1, List.length_take]; omega
        refine ⟨_, rfl, ?_⟩
        have m1 : CMul s 48271 := cmul_r (by decide) (by decide)
        have m2 : CMul 974711 (k : Int) := cmul_l (by decide) (by decide)
        have e0 := Int.emod_nonneg (s * 48271 + 974711 * (k : Int) + 12345) (show (2147483647 : Int) ≠ 0 by decide)
        have e1 := Int.emod_lt_of_pos (s * 48271 + 974711 * (k : Int) + 12345) (show (0 : Int) < 2147483647 by decide)
        refine wp_seq (wp_set (d := .int ((s * 48271 + 974711 * (k : Int) + 12345) % 2147483647)) (by trivial) ?_)
        generalize (s * 48271 + 974711 * (k : Int) + 12345) % 2147483647 = t at e0 e1 ⊢
        have m3 : CMul t (t / 65537 + 3) := cmul_l (by omega) (by omega)
        have m4 : dFdiv (.int t) (.int 65537) = some (.int (t / 65537)) := d_fdiv (by decide) (by decide)
        refine wp_seq (wp_set (d := .int (t * (t / 65537 + 3) % 2147483629)) (by trivial) ?_)
        generalize t * (t / 65537 + 3) % 2147483629 = u
        have m5 : dFdiv (.int u) (.int 19) = some (.int (u / 19)) := d_fdiv (by decide) (by decide)
        have m6 : dIx (.lst (iD sz)) (.int (k : Nat)) = some (.int sz[k]) := d_ix rfl (by simp [iD, hk])
        refine wp_append (ds := iD ds) (d := .int (u / 19 % sz[k])) rfl (by trivial) (by simp [iD]; unfold sizeLine; omega) ?_
        refine ⟨t, ds ++ [u / 19 % sz[k]], _, _, e0, e1, ?_, by simp [iD]; exact ⟨rfl, rfl⟩⟩
        rw [List.take_succ, List.getElem?_eq_getElem hk]
        exact dig_snoc hd (Int.emod_nonneg _ (by omega)) (Int.emod_lt_of_pos _ hx1)
      · rintro c ⟨s, ds, y, z, h0, h1, hd, rfl⟩
        refine wp_ret (d := .lst (iD ds)) rfl ⟨_, rfl, ds, rfl, ?_⟩
        rw [List.take_length] at hd
        exact hd
  obtain ⟨d, h1, ds, rfl, h2⟩ := key
  exact ⟨ds, h1, h2⟩
theorem dig_at {row sz : List Int} (h : Dig row sz) {i : Nat} {s : Int} (hs : sz[i]? = some s) : ∃ k : Nat, row[i]? = some (k : Int) ∧ (k : Int) < s := by
  have hi : i < sz.length := (List.getElem?_eq_some_iff.mp hs).1
  have hi2 : i < row.length := by rw [h.1]; exact hi
  have hg : row[i]? = some row[i] := List.getElem?_eq_getElem hi2
  obtain ⟨h1, h2⟩ := h.2 i _ s hg hs
  obtain ⟨k, hk⟩ := Int.eq_ofNat_of_zero_le h1
  refine ⟨k, ?_, ?_⟩
  · rw [hg, hk]
  · rw [← hk]; exact h2
/-- a digit, read -/
theorem row_at {row sz : List Int} (h : Dig row sz) (i : Nat) {s : Int} (hs : sz[i]? = some s) : ∃ k : Nat, dIx (.lst (iD row)) (.int (i : Nat)) = some (.int (k : Int)) ∧ (k : Int) < s := by
  obtain ⟨k, h1, h2⟩ := dig_at h hs
  exact ⟨k, ix_map rfl h1, h2⟩
/-! lists and tuples of typed data -/
section
variable {α : Type} {e : α → D} {xs ys : List α} {c : Env} {g : GE}
theorem e_lenM (h : g c = some (.lst (xs.map e))) : gCall fLen (VL.gCons g VL.gNil) c = some (.int (xs.length : Nat)) := by
  have := e_len h (.inl rfl); rw [List.length_map] at this; exact this
theorem e_lenT (h : g c = some (.tup (xs.map e))) : gCall fLen (VL.gCons g VL.gNil) c = some (.int (xs.length : Nat)) := by
  have := e_len h (.inr (.inl rfl)); rw [List.length_map] at this; exact this
theorem e_rgM (h : g c = some (.lst (xs.map e))) (hl : xs.length < 100000) : gRg1 (VL.gCons (gCall fLen (VL.gCons g VL.gNil)) VL.gNil) c = some (rgD 0 xs.length) := by
  have := e_rgLen h (.inl rfl) (by simpa using hl); rw [List.length_map] at this; exact this
theorem e_rgT (h : g c = some (.tup (xs.map e))) (hl : xs.length < 100000) : gRg1 (VL.gCons (gCall fLen (VL.gCons g VL.gNil)) VL.gNil) c = some (rgD 0 xs.length) := by
  have := e_rgLen h (.inr (.inl rfl)) (by simpa using hl); rw [List.length_map] at this; exact this
theorem add_lst (h : xs.length + ys.length ≤ sizeLine) : dAdd (.lst (xs.map e)) (.lst (ys.map e)) = some (.lst ((xs ++ ys).map e)) := by
  show (if (xs.map e).length + (ys.map e).length ≤ sizeLine then some (D.lst (xs.map e ++ ys.map e)) else none) = _
  rw [if_pos (by simpa using h), List.map_append]
theorem add_tup (h : xs.length + ys.length ≤ sizeLine) : dAdd (.tup (xs.map e)) (.tup (ys.map e)) = some (.tup ((xs ++ ys).map e)) := by
  show (if (xs.map e).length + (ys.map e).length ≤ sizeLine then some (D.tup (xs.map e ++ ys.map e)) else none) = _
  rw [if_pos (by simpa using h), List.map_append]
theorem cutL_pre (k : Nat) : dCut (.lst (xs.map e)) none (some (k : Int)) = some (.lst ((xs.take k).map e)) := by
  show some (D.lst (cutD (xs.map e) _ _)) = _
  rw [cut_pre]
theorem cutL_suf (k : Nat) : dCut (.lst (xs.map e)) (some (k : Int)) none = some (.lst ((xs.drop k).map e)) := by
  show some (D.lst (cutD (xs.map e) _ _)) = _
  rw [cut_suf]
theorem cutL_any (p m : Nat) : dCut (.lst (xs.map e)) (some (p : Int)) (some ((p : Int) + (m : Nat))) = some (.lst (((xs.drop p).take m).map e)) := by
  show some (D.lst (cutD (xs.map e) _ _)) = _
  rw [cut_any]
theorem cutL_mid (p q : Nat) : dCut (.lst (xs.map e)) (some (p : Int)) (some (q : Int)) = some (.lst (((xs.drop p).take (q - p)).map e)) := by
  show some (D.lst (cutD (xs.map e) _ _)) = _
  by_cases h : p ≤ q
  · obtain ⟨m, rfl⟩ := Nat.exists_eq_add_of_le h
    rw [show ((p + m : Nat) : Int) = (p : Int) + (m : Nat) by simp, cut_any, Nat.add_sub_cancel_left]
  · rw [cut_map, HT.sIx_nat, HT.sIx_nat, show min q xs.length - min p xs.length = 0 by omega, show q - p = 0 by omega]
    simp
theorem cutT_mid (p q : Nat) : dCut (.tup (xs.map e)) (some (p : Int)) (some (q : Int)) = some (.tup (((xs.drop p).take (q - p)).map e)) := by
  show some (D.tup (cutD (xs.map e) _ _)) = _
  by_cases h : p ≤ q
  · obtain ⟨m, rfl⟩ := Nat.exists_eq_add_of_le h
    rw [show ((p + m : Nat) : Int) = (p : Int) + (m : Nat) by simp, cut_any, Nat.add_sub_cancel_left]
  · rw [cut_map, HT.sIx_nat, HT.sIx_nat, show min q xs.length - min p xs.length = 0 by omega, show q - p = 0 by omega]
    simp
end
theorem mul_iD (a : List Int) (n : Nat) (h : a.length * n ≤ 1000000) (hn : n < 1000000) : dMul (.lst (iD a)) (.int (n : Nat)) = some (.lst (iD (List.replicate n a).flatten)) := by
  have hs : 1000000 ≤ sizeLine := by unfold sizeLine; omega
  unfold dMul
  simp only []
  rw [if_pos ⟨by omega, by omega, by rw [List.length_map, Int.toNat_natCast]; omega⟩, Int.toNat_natCast]
  congr 2
  show _ = ((List.replicate n a).flatten).map D.int
  rw [List.map_flatten, List.map_replicate]
abbrev nD (k : Nat) : D := .int (k : Nat)
theorem rg_nD (n : Nat) : rgD 0 n = (List.range n).map nD := rgD_map n
theorem wp_setIx {c : Env} {P : Out → Prop} {i : Nat} {gk ge : GE} {ds : List D} {d : D} {j : Nat} (hc : c[i]? = some (some (.own ds))) (he : ge c = some d) (hk : gk c = some (.int (j : Nat))) (hj : j < ds.length) (hP : P (.nx (c.set i (some (.own (ds.set j d)))))) : Wp (gSetIx i gk ge) c P := by
  refine ⟨.nx (c.set i (some (.own (ds.set j d)))), ?_, hP⟩
  have h1 : ixN ds.length (j : Int) = some j := by
    unfold ixN
    rw [if_pos (by omega), if_pos (by omega)]
    rfl
  unfold gSetIx
  simp only [hc, he, hk, h1]
theorem eqV_int (i j : Int) : eqV (D.int i).toV (D.int j).toV = decide (i = j) := by
  show (i == j) = _
  exact Bool.eq_iff_iff.mpr (by simp)
theorem in_iD (i : Int) (xs : List Int) : dIn (.int i) (.lst (iD xs)) = some (.bl (decide (i ∈ xs))) := by
  have h1 : (iD xs).all D.scal = true := by
    rw [List.all_eq_true]
    intro x hx
    obtain ⟨s, _, rfl⟩ := List.mem_map.mp hx
    rfl
  have h2 : dInB (.int i) (.lst (iD xs)) = some (decide (i ∈ xs)) := by
    show (if (D.int i).scal = true ∧ (iD xs).all D.scal = true then some (((iD xs).map D.toV).any fun v => eqV v (D.int i).toV) else none) = _
    rw [if_pos ⟨rfl, h1⟩, List.map_map, List.any_map]
    congr 1
    rw [Bool.eq_iff_iff, List.any_eq_true]
    simp only [Function.comp, decide_eq_true_eq, eqV_int]
    constructor
    · rintro ⟨s, hs, h⟩
      rw [← h]; exact hs
    · intro h
      exact ⟨i, h, rfl⟩
  unfold dIn
  rw [h2]
  rfl
/-! the letters a to z -/
def ltr (k : Nat) : Lt := Fin.ofNat 128 (97 + k)
def every26 : List Lt := (List.range 26).map ltr
theorem every_eq : D.str "abcdefghijklmnopqrstuvwxyz" = alD every26 := rfl
theorem every_at {k : Nat} (h : k < 26) : every26[k]? = some (ltr k) := by
  unfold every26
  rw [List.getElem?_map, List.getElem?_range h]
  rfl
theorem ltr_val {k : Nat} (h : k < 26) : (ltr k).val = 97 + k := by
  show (97 + k) % 128 = 97 + k
  omega
/-- an alphabet: letters a to z, ascending -/
def Alph (al : List Lt) : Prop := ∃ sub : List Nat, sub.Pairwise (· < ·) ∧ (∀ k ∈ sub, k < 26) ∧ sub ≠ [] ∧ al = sub.map ltr
theorem sub_lenF : ∀ (sub : List Nat) (lo : Nat), sub.Pairwise (· < ·) → (∀ k ∈ sub, lo ≤ k ∧ k < 26) → sub.length ≤ 26 - lo
  | [], _, _, _ => by simp
  | k :: sub, lo, h, h2 => by
    obtain ⟨h3, h4⟩ := List.pairwise_cons.mp h
    have h5 := h2 k (List.mem_cons_self ..)
    have := sub_lenF sub (k + 1) h4 fun j hj => ⟨h3 j hj, (h2 j (List.mem_cons_of_mem _ hj)).2⟩
    simp only [List.length_cons]
    omega
theorem sub_len {sub : List Nat} (h : sub.Pairwise (· < ·)) (h2 : ∀ k ∈ sub, k < 26) : sub.length ≤ 26 := sub_lenF sub 0 h fun k hk => ⟨Nat.zero_le _, h2 k hk⟩
theorem Alph.len {al : List Lt} (h : Alph al) : 0 < al.length ∧ al.length ≤ 26 := by
  obtain ⟨sub, h1, h2, h3, rfl⟩ := h
  rw [List.length_map]
  exact ⟨List.length_pos_iff.mpr h3, sub_len h1 h2⟩
end VL
end

section
namespace K40
open PySem PySem.Spec PyProof.Rows L2 VL

def top (i : Nat) : Stmt := PySem.Challenge.pw_fourleashes_k40_derivations.main.body.getD i (.Pass ⟨0, 0, 0, 0⟩)

/-- where the classes stand -/
structure Ad where
  C_Grammar : Addr
  C_BadRow : Addr
  C_BadForm : Addr
  C_BadRule : Addr
  C_BadRun : Addr
  C_LeashError : Addr
  C_NotOfKind : Addr

abbrev s_is_alphabet : Stmt := top 12

abbrev N_is_alphabet : List Str := ["value", "index"]

abbrev s_check_alphabet : Stmt := top 13

abbrev N_check_alphabet : List Str := ["alphabet"]

abbrev s_is_whole : Stmt := top 11

abbrev N_is_whole : List Str := ["value"]

abbrev s_is_symbol : Stmt := top 16

abbrev N_is_symbol : List Str := ["symbol", "alphabet", "variables"]

abbrev s_is_variable : Stmt := top 15

abbrev N_is_variable : List Str := ["symbol"]

abbrev s_is_rule : Stmt := top 17

abbrev N_is_rule : List Str := ["left", "right", "alphabet", "variables", "symbol"]

abbrev s_Grammar_init : Stmt := inClass (top 18) 0

abbrev N_Grammar_init : List Str := ["self", "alphabet", "variables", "rules", "kept", "index", "rule", "left", "right"]

abbrev s__law_digits : Stmt := top 28

abbrev N__law_digits : List Str := ["cell", "sizes", "row", "rest", "size", "seed", "k", "twice"]

abbrev s__law_alphabet : Stmt := top 29

abbrev N__law_alphabet : List Str := ["cell", "row", "every", "k"]

abbrev s_rewritten : Stmt := top 20

abbrev N_rewritten : List Str := ["grammar", "form", "number", "place", "left", "right", "held"]

abbrev s_forms_until : Stmt := top 21

abbrev N_forms_until : List Str := ["grammar", "row", "forms", "number", "place", "form"]

abbrev s_forms_along : Stmt := top 22

abbrev N_forms_along : List Str := ["grammar", "row", "forms"]

abbrev s_derived : Stmt := top 23

abbrev N_derived : List Str := ["grammar", "row"]

abbrev s__law_asked : Stmt := top 44

abbrev N__law_asked : List Str := ["which", "grammar", "handed", "e", "others"]

abbrev s__law_whole : Stmt := top 26

abbrev N__law_whole : List Str := ["value"]

abbrev s__law_side_alike : Stmt := top 41

abbrev N__law_side_alike : List Str := ["told", "side", "k"]

abbrev s__law_forms_alike : Stmt := top 42

abbrev N__law_forms_alike : List Str := ["told", "forms", "k"]

abbrev s_is_derivation : Stmt := top 24

abbrev N_is_derivation : List Str := ["grammar", "text", "row", "forms", "letter"]

abbrev s__law_beginnings_told : Stmt := top 48

abbrev N__law_beginnings_told : List Str := ["grammar", "pairs", "whole", "goal", "handed", "k", "told", "letter"]

abbrev s__law_cell : Stmt := top 27

abbrev N__law_cell : List Str := ["script", "k", "seed", "cell"]

abbrev s__law_rewrite : Stmt := top 35

abbrev N__law_rewrite : List Str := ["rules", "form", "number", "place", "rule"]

abbrev s__law_follow : Stmt := top 39

abbrev N__law_follow : List Str := ["rules", "pairs", "forms", "pair", "form"]

abbrev s__law_changed_row : Stmt := top 40

abbrev N__law_changed_row : List Str := ["rules", "pairs", "row", "at", "forms", "number", "place", "menu"]

abbrev s__law_choices : Stmt := top 36

abbrev N__law_choices : List Str := ["rules", "form", "choices", "number", "place"]

abbrev s__law_spots : Stmt := top 31

abbrev N__law_spots : List Str := ["form", "k"]

abbrev s__law_closes : Stmt := top 37

abbrev N__law_closes : List Str := ["rule"]

abbrev s__law_drawn_row : Stmt := top 38

abbrev N__law_drawn_row : List Str := ["script", "rules", "row", "digits", "pairs", "form", "steps", "k", "choices", "opening", "broad", "digit", "pair", "spots", "spot", "closing", "j"]

abbrev s__law_form_told : Stmt := top 47

abbrev N__law_form_told : List Str := ["grammar", "rules", "form", "digit", "numbers", "places", "handed", "number", "place", "due", "told"]

abbrev s__law_handed : Stmt := top 43

abbrev N__law_handed : List Str := ["pairs", "shape", "pair"]

abbrev s__law_row_told : Stmt := top 45

abbrev N__law_row_told : List Str := ["grammar", "rules", "pairs", "shape", "forms", "handed", "which", "told"]

abbrev s__law_closing_rules : Stmt := top 33

abbrev N__law_closing_rules : List Str := ["cell", "alphabet", "variables", "lost", "row", "rules", "k", "letters", "digit"]

abbrev s__law_symbol : Stmt := top 30

abbrev N__law_symbol : List Str := ["digit", "alphabet", "variables"]

abbrev s__law_grown_rules : Stmt := top 32

abbrev N__law_grown_rules : List Str := ["script", "alphabet", "variables", "many", "rules", "form", "k", "row", "spots", "spot", "begin", "end", "size", "right", "digit"]

abbrev s__law_rules : Stmt := top 34

abbrev N__law_rules : List Str := ["script", "alphabet", "variables", "row", "lost", "rules", "turn", "k"]

abbrev s__law_texts_told : Stmt := top 46

abbrev N__law_texts_told : List Str := ["grammar", "rules", "pairs", "whole", "first", "shape", "forms", "last", "goal", "handed", "string", "due", "told", "symbol", "letter"]

abbrev s_law : Stmt := top 49

abbrev N_law : List Str := ["script", "alphabet", "row", "variables", "rules", "grammar", "pairs", "whole", "line", "free", "form", "goal", "cut", "tried", "stray", "k", "change", "shifted_rules", "other", "item", "digit", "symbol"]

def g_is_alphabet (A : Ad) : GS :=
 (gSeq (gIf (gNot (gB (gChain dLe dLe (gC (.int 1)) (gCall fLen (VL.gCons (gLook 0) VL.gNil)) (gC (.int 26))))) (gRet (gC (.bl false))) gNext)
 (gSeq (gFor (gRg1 (VL.gCons (gCall fLen (VL.gCons (gLook 0) VL.gNil)) VL.gNil)) (fName 1) (gSeq (gIf (gB (g2 dNotIn (g2 dIx (gLook 0) (gLook 1)) (gC (.str "abcdefghijklmnopqrstuvwxyz")))) (gRet (gC (.bl false))) gNext)
 (gIf (gAnd (gB (g2 dGt (gLook 1) (gC (.int 0)))) (gB (g2 dGe (g2 dIx (gLook 0) (g2 dSub (gLook 1) (gC (.int 1)))) (g2 dIx (gLook 0) (gLook 1))))) (gRet (gC (.bl false))) gNext)))
 (gRet (gC (.bl true)))))

def m_is_alphabet (A : Ad) : List D → Option Res := mOf 1 2 (g_is_alphabet A)

def g_check_alphabet (A : Ad) : GS :=
 (gIf (gNot (gTru (gFn (m_is_alphabet A) (VL.gCons (gLook 0) VL.gNil)))) gNever gNext)

def m_check_alphabet (A : Ad) : List D → Option Res := mOf 1 1 (g_check_alphabet A)

def g_is_whole (A : Ad) : GS :=
 (gRet (gBl (gAnd (gB (gIsi "int" (gLook 0))) (gB (gBl (gNot (gB (gIsi "bool" (gLook 0)))))))))

def m_is_whole (A : Ad) : List D → Option Res := mOf 1 1 (g_is_whole A)

def g_is_symbol (A : Ad) : GS :=
 (gSeq (gIf (gTru (gIsi "str" (gLook 0))) (gRet (gBl (gAnd (gB (g2 dEq (gCall fLen (VL.gCons (gLook 0) VL.gNil)) (gC (.int 1)))) (gB (g2 dIn (gLook 0) (gLook 1)))))) gNext)
 (gRet (gBl (gAnd (gB (gFn (m_is_whole A) (VL.gCons (gLook 0) VL.gNil))) (gB (gChain dLe dLt (gC (.int 0)) (gLook 0) (gLook 2)))))))

def m_is_symbol (A : Ad) : List D → Option Res := mOf 3 3 (g_is_symbol A)

def g_is_variable (A : Ad) : GS :=
 (gRet (gBl (gNot (gB (gIsi "str" (gLook 0))))))

def m_is_variable (A : Ad) : List D → Option Res := mOf 1 1 (g_is_variable A)

def g_is_rule (A : Ad) : GS :=
 (gSeq (gFor (gIt (g2 dAdd (gVar 0) (gVar 1))) (fName 4) (gIf (gNot (gTru (gFn (m_is_symbol A) (VL.gCons (gLook 4) (VL.gCons (gLook 2) (VL.gCons (gLook 3) VL.gNil)))))) (gRet (gC (.bl false))) gNext))
 (gSeq (gFor (gIt (gVar 0)) (fName 4) (gIf (gTru (gFn (m_is_variable A) (VL.gCons (gLook 4) VL.gNil))) (gRet (gC (.bl true))) gNext))
 (gRet (gC (.bl false)))))

def m_is_rule (A : Ad) : List D → Option Res := mOf 4 5 (g_is_rule A)

def g_Grammar_init (A : Ad) : GS :=
 (gSeq (gDrop (gFn (m_check_alphabet A) (VL.gCons (gLook 1) VL.gNil)))
 (gSeq (gIf (gB (g2 dLt (gLook 2) (gC (.int 1)))) gNever gNext)
 (gSeq (gAsgN 4 (gLen VL.gNil))
 (gSeq (gFor (gEnum (gVar 3)) (fTupU 2 (fCons (fName 5) (fCons (fName 6) fNil))) (gSeq (gPar 7 8 (VL.gCons (gCall fTuple (VL.gCons (g2 dIx (gLook 6) (gC (.int 0))) VL.gNil)) (VL.gCons (gCall fTuple (VL.gCons (g2 dIx (gLook 6) (gC (.int 1))) VL.gNil)) VL.gNil)))
 (gSeq (gIf (gNot (gTru (gFn (m_is_rule A) (VL.gCons (gLook 7) (VL.gCons (gLook 8) (VL.gCons (gLook 1) (VL.gCons (gLook 2) VL.gNil))))))) gNever gNext)
 (gAppend 4 (VL.gTup (VL.gCons (gVar 7) (VL.gCons (gVar 8) VL.gNil)))))))
 (gSeq (gFldS A.C_Grammar 0 "alphabet" (gVar 1))
 (gSeq (gFldS A.C_Grammar 0 "variables" (gVar 2))
 (gFrz 4 (gFldS A.C_Grammar 0 "rules" (gCall fTuple (VL.gCons (gVar 4) VL.gNil))))))))))

def i_Grammar (A : Ad) : List D → Option (List Str × List D) := iOf A.C_Grammar 3 9 (g_Grammar_init A)

def g__law_digits (A : Ad) : GS :=
 (gSeq (gAsgN 2 (gLen VL.gNil))
 (gSeq (gAsg (gCall fInt (VL.gCons (gLook 0) VL.gNil)) (fName 3))
 (gSeq (gIf (gB (g2 dGe (gLook 3) (g2 dPow (gC (.int 10)) (gC (.int 18))))) (gSeq (gAsg (g2 dMod (gCall fInt (VL.gCons (g2 dSub (gLook 3) (g2 dPow (gC (.int 10)) (gC (.int 18)))) VL.gNil)) (g2 dPow (gC (.int 10)) (gC (.int 64)))) (fName 3))
 (gSeq (gFor (gIt (gVar 1)) (fName 4) (gSeq (gAppend 2 (g2 dMod (gCall fInt (VL.gCons (gLook 3) VL.gNil)) (gLook 4)))
 (gAsg (g2 dFdiv (gCall fInt (VL.gCons (gLook 3) VL.gNil)) (gLook 4)) (fName 3))))
 (gRet (gVar 2)))) gNext)
 (gSeq (gAsg (g2 dMod (gCall fInt (VL.gCons (gLook 3) VL.gNil)) (gC (.int 2147483629))) (fName 5))
 (gSeq (gFor (gRg1 (VL.gCons (gCall fLen (VL.gCons (gLook 1) VL.gNil)) VL.gNil)) (fName 6) (gSeq (gAsg (g2 dMod (gCall fInt (VL.gCons (g2 dAdd (g2 dAdd (g2 dMul (gLook 5) (gC (.int 48271))) (g2 dMul (gC (.int 974711)) (gLook 6))) (gC (.int 12345))) VL.gNil)) (gC (.int 2147483647))) (fName 5))
 (gSeq (gAsg (g2 dMod (gCall fInt (VL.gCons (g2 dMul (gLook 5) (g2 dAdd (g2 dFdiv (gLook 5) (gC (.int 65537))) (gC (.int 3)))) VL.gNil)) (gC (.int 2147483629))) (fName 7))
 (gAppend 2 (g2 dMod (gCall fInt (VL.gCons (g2 dFdiv (gLook 7) (gC (.int 19))) VL.gNil)) (g2 dIx (gLook 1) (gLook 6)))))))
 (gRet (gVar 2)))))))

def m__law_digits (A : Ad) : List D → Option Res := mOf 2 8 (g__law_digits A)

def g__law_alphabet (A : Ad) : GS :=
 (gSeq (gAsg (gFn (m__law_digits A) (VL.gCons (gVar 0) (VL.gCons (gL (gLen (VL.gCons (gC (.int 4)) (VL.gCons (gC (.int 26)) (VL.gCons (gC (.int 26)) (VL.gCons (gC (.int 26)) (VL.gCons (gC (.int 26)) VL.gNil))))))) VL.gNil))) (fName 1))
 (gSeq (gAsg (gC (.str "abcdefghijklmnopqrstuvwxyz")) (fName 2))
 (gRet (g2 dJoin (gC (.str "")) (gL (gLc (gRg1 (VL.gCons (gC (.int 26)) VL.gNil)) (fName 3) (gB (g2 dIn (gLook 3) (gCut (gLook 1) (gPart (gC (.int 1))) (gPart (g2 dAdd (gC (.int 2)) (g2 dIx (gLook 1) (gC (.int 0)))))))) (g2 dIx (gLook 2) (gLook 3)) [3]))))))

def m__law_alphabet (A : Ad) : List D → Option Res := mOf 1 4 (g__law_alphabet A)

def g_rewritten (A : Ad) : GS :=
 (gSeq (gIf (gOr (gNot (gB (gChain dLe dLt (gC (.int 0)) (gLook 2) (gCall fLen (VL.gCons (gFld A.C_Grammar "rules" (gLook 0)) VL.gNil))))) (gB (g2 dLt (gLook 3) (gC (.int 0))))) (gRet (gC .non)) gNext)
 (gSeq (gAsg (g2 dIx (gFld A.C_Grammar "rules" (gVar 0)) (gVar 2)) (fTupU 2 (fCons (fName 4) (fCons (fName 5) fNil))))
 (gSeq (gAsg (gCall fTuple (VL.gCons (gVar 1) VL.gNil)) (fName 6))
 (gSeq (gIf (gB (g2 dNe (gCut (gLook 6) (gPart (gLook 3)) (gPart (g2 dAdd (gLook 3) (gCall fLen (VL.gCons (gLook 4) VL.gNil))))) (gLook 4))) (gRet (gC .non)) gNext)
 (gRet (g2 dAdd (g2 dAdd (gCut (gVar 6) (fun _ => some none) (gPart (gLook 3))) (gVar 5)) (gCut (gVar 6) (gPart (g2 dAdd (gLook 3) (gCall fLen (VL.gCons (gLook 4) VL.gNil)))) (fun _ => some none))))))))

def m_rewritten (A : Ad) : List D → Option Res := mOf 4 7 (g_rewritten A)

def g_forms_until (A : Ad) : GS :=
 (gSeq (gAsgN 2 (gLen (VL.gCons (VL.gTup (VL.gCons (gC (.int 0)) VL.gNil)) VL.gNil)))
 (gSeq (gFor (gIt (gVar 1)) (fTupU 2 (fCons (fName 3) (fCons (fName 4) fNil))) (gSeq (gAsg (gFn (m_rewritten A) (VL.gCons (gVar 0) (VL.gCons (g2 dIx (gLook 2) (gNeg (gC (.int 1)))) (VL.gCons (gVar 3) (VL.gCons (gVar 4) VL.gNil))))) (fName 5))
 (gSeq (gIf (gB (g2 dIs (gLook 5) (gC .non))) gBreak gNext)
 (gAppend 2 (gVar 5)))))
 (gRet (gVar 2))))

def m_forms_until (A : Ad) : List D → Option Res := mOf 2 6 (g_forms_until A)

def g_forms_along (A : Ad) : GS :=
 (gSeq (gAsg (gFn (m_forms_until A) (VL.gCons (gVar 0) (VL.gCons (gVar 1) VL.gNil))) (fName 2))
 (gSeq (gIf (gB (g2 dLe (gCall fLen (VL.gCons (gLook 2) VL.gNil)) (gCall fLen (VL.gCons (gLook 1) VL.gNil)))) (gRaise1 A.C_BadRow "index" (VL.gCons (g2 dSub (gCall fLen (VL.gCons (gLook 2) VL.gNil)) (gC (.int 1))) VL.gNil)) gNext)
 (gRet (gCall fTuple (VL.gCons (gVar 2) VL.gNil)))))

def m_forms_along (A : Ad) : List D → Option Res := mOf 2 3 (g_forms_along A)

def g_derived (A : Ad) : GS :=
 (gRetX (gX2 dIx (gCallR (m_forms_along A) (VL.gCons (gVar 0) (VL.gCons (gVar 1) VL.gNil))) (gNeg (gC (.int 1)))))

def m_derived (A : Ad) : List D → Option Res := mOf 2 2 (g_derived A)

def g__law_asked (A : Ad) : GS :=
 (gTryG 3 A.C_BadRow (ySeq (yIf (gB (g2 dEq (gLook 0) (gC (.int 0)))) (yRet (gXTup (gXCons (gVal (gC (.str "told"))) (gXCons (gCallR (m_forms_along A) (VL.gCons (gVar 1) (VL.gCons (gVar 2) VL.gNil))) gXNil)))) yNext)
 (yRet (gXTup (gXCons (gVal (gC (.str "told"))) (gXCons (gCallR (m_derived A) (VL.gCons (gVar 1) (VL.gCons (gVar 2) VL.gNil))) gXNil))))) (gSeq (gAsg (gL (gLen (VL.gCons (gIsX 3 A.C_BadRow false) (VL.gCons (gIsX 3 A.C_BadRow false) (VL.gCons (gIsX 3 A.C_BadRow false) (VL.gCons (gIsX 3 A.C_BadRow false) VL.gNil)))))) (fName 4))
 (gSeq (gIf (gOr (gNot (gTru (gIsX 3 A.C_BadRow true))) (gOr (gNot (gTru (gIsX 3 A.C_BadRow true))) (gB (g2 dGt (g2 dCnt (gLook 4) (gC (.bl true))) (gC (.int 0)))))) (gRet (VL.gTup (VL.gCons (gC (.str "other")) (VL.gCons (gC (.int 0)) VL.gNil)))) gNext)
 (gRet (VL.gTup (VL.gCons (gC (.str "row")) (VL.gCons (gXf 3 A.C_BadRow "index") VL.gNil)))))))

def m__law_asked (A : Ad) : List D → Option Res := mOf 3 5 (g__law_asked A)

def g__law_whole (A : Ad) : GS :=
 (gRet (gBl (gAnd (gB (gIsi "int" (gLook 0))) (gB (gBl (gNot (gB (gIsi "bool" (gLook 0)))))))))

def m__law_whole (A : Ad) : List D → Option Res := mOf 1 1 (g__law_whole A)

def g__law_side_alike (A : Ad) : GS :=
 (gSeq (gIf (gOr (gNot (gTru (gIsi "tuple" (gLook 0)))) (gB (g2 dNe (gCall fLen (VL.gCons (gLook 0) VL.gNil)) (gCall fLen (VL.gCons (gLook 1) VL.gNil))))) (gRet (gC (.bl false))) gNext)
 (gSeq (gFor (gRg1 (VL.gCons (gCall fLen (VL.gCons (gLook 1) VL.gNil)) VL.gNil)) (fName 2) (gIf (gTru (gIsi "str" (g2 dIx (gLook 1) (gLook 2)))) (gIf (gOr (gNot (gTru (gIsi "str" (g2 dIx (gLook 0) (gLook 2))))) (gB (g2 dNe (g2 dIx (gLook 0) (gLook 2)) (g2 dIx (gLook 1) (gLook 2))))) (gRet (gC (.bl false))) gNext) (gIf (gOr (gNot (gTru (gFn (m__law_whole A) (VL.gCons (g2 dIx (gLook 0) (gLook 2)) VL.gNil)))) (gB (g2 dNe (g2 dIx (gLook 0) (gLook 2)) (g2 dIx (gLook 1) (gLook 2))))) (gRet (gC (.bl false))) gNext)))
 (gRet (gC (.bl true)))))

def m__law_side_alike (A : Ad) : List D → Option Res := mOf 2 3 (g__law_side_alike A)

def g__law_forms_alike (A : Ad) : GS :=
 (gSeq (gIf (gOr (gNot (gTru (gIsi "tuple" (gLook 0)))) (gB (g2 dNe (gCall fLen (VL.gCons (gLook 0) VL.gNil)) (gCall fLen (VL.gCons (gLook 1) VL.gNil))))) (gRet (gC (.bl false))) gNext)
 (gSeq (gFor (gRg1 (VL.gCons (gCall fLen (VL.gCons (gLook 1) VL.gNil)) VL.gNil)) (fName 2) (gIf (gNot (gTru (gFn (m__law_side_alike A) (VL.gCons (g2 dIx (gLook 0) (gLook 2)) (VL.gCons (g2 dIx (gLook 1) (gLook 2)) VL.gNil))))) (gRet (gC (.bl false))) gNext))
 (gRet (gC (.bl true)))))

def m__law_forms_alike (A : Ad) : List D → Option Res := mOf 2 3 (g__law_forms_alike A)

def g_is_derivation (A : Ad) : GS :=
 (gSeq (gAsg (gFn (m_forms_until A) (VL.gCons (gVar 0) (VL.gCons (gVar 2) VL.gNil))) (fName 3))
 (gRet (gBl (gAnd (gB (g2 dEq (gCall fLen (VL.gCons (gLook 3) VL.gNil)) (g2 dAdd (gCall fLen (VL.gCons (gLook 2) VL.gNil)) (gC (.int 1))))) (gB (g2 dEq (g2 dIx (gLook 3) (gNeg (gC (.int 1)))) (gCall fTuple (VL.gCons (gL (gLc (gIt (gVar 1)) (fName 4) gYes (gVar 4) [4])) VL.gNil))))))))

def m_is_derivation (A : Ad) : List D → Option Res := mOf 3 5 (g_is_derivation A)

def g__law_beginnings_told (A : Ad) : GS :=
 (gSeq (gAsgN 4 (gLen VL.gNil))
 (gSeq (gFor (gRg1 (VL.gCons (gCall fMin (VL.gCons (gCall fLen (VL.gCons (gLook 1) VL.gNil)) (VL.gCons (gC (.int 9)) VL.gNil))) VL.gNil)) (fName 5) (gSeq (gAsg (gImm (gFn (m__law_asked A) (VL.gCons (gC (.int 0)) (VL.gCons (gLook 0) (VL.gCons (gLook 4) VL.gNil))))) (fName 6))
 (gSeq (gIf (gOr (gB (g2 dNe (g2 dIx (gLook 6) (gC (.int 0))) (gC (.str "told")))) (gNot (gTru (gFn (m__law_forms_alike A) (VL.gCons (g2 dIx (gLook 6) (gC (.int 1))) (VL.gCons (gCut (gLook 2) (fun _ => some none) (gPart (g2 dAdd (gLook 5) (gC (.int 1))))) VL.gNil)))))) (gRet (gC (.bl false))) gNext)
 (gSeq (gAsg (gImm (gFn (m_is_derivation A) (VL.gCons (gLook 0) (VL.gCons (gLook 3) (VL.gCons (gLook 4) VL.gNil))))) (fName 6))
 (gSeq (gIf (gOr (gNot (gTru (gIsi "bool" (gLook 6)))) (gB (g2 dNe (gLook 6) (g2 dEq (g2 dIx (gLook 2) (gLook 5)) (gCall fTuple (VL.gCons (gL (gLc (gIt (gVar 3)) (fName 7) gYes (gVar 7) [7])) VL.gNil)))))) (gRet (gC (.bl false))) gNext)
 (gAppend 4 (g2 dIx (gLook 1) (gLook 5))))))))
 (gRet (g2 dEq (gLook 4) (gCut (gLook 1) (fun _ => some none) (gPart (gC (.int 9))))))))

def m__law_beginnings_told (A : Ad) : List D → Option Res := mOf 4 8 (g__law_beginnings_told A)

def g__law_cell (A : Ad) : GS :=
 (gSeq (gIf (gB (g2 dLt (gLook 1) (gCall fLen (VL.gCons (gLook 0) VL.gNil)))) (gRet (g2 dIx (gLook 0) (gLook 1))) gNext)
 (gSeq (gAsg (gC (.int 17)) (fName 2))
 (gSeq (gFor (gIt (gVar 0)) (fName 3) (gAsg (g2 dMod (gCall fInt (VL.gCons (g2 dAdd (g2 dMul (gLook 2) (gC (.int 31))) (g2 dMod (gCall fInt (VL.gCons (gLook 3) VL.gNil)) (gC (.int 1000003)))) VL.gNil)) (gC (.int 1000003))) (fName 2)))
 (gRet (g2 dMod (gCall fInt (VL.gCons (g2 dMul (g2 dMul (g2 dAdd (gLook 2) (gC (.int 7))) (g2 dAdd (gLook 1) (gC (.int 3)))) (gC (.int 69621))) VL.gNil)) (gC (.int 2147483647)))))))

def m__law_cell (A : Ad) : List D → Option Res := mOf 2 4 (g__law_cell A)

def g__law_rewrite (A : Ad) : GS :=
 (gSeq (gIf (gOr (gB (g2 dLt (gLook 2) (gC (.int 0)))) (gOr (gB (g2 dGe (gLook 2) (gCall fLen (VL.gCons (gLook 0) VL.gNil)))) (gB (g2 dLt (gLook 3) (gC (.int 0)))))) (gRet (gC .non)) gNext)
 (gSeq (gAsg (g2 dIx (gLook 0) (gLook 2)) (fName 4))
 (gSeq (gIf (gB (g2 dNe (gCut (gLook 1) (gPart (gLook 3)) (gPart (g2 dAdd (gLook 3) (gCall fLen (VL.gCons (g2 dIx (gLook 4) (gC (.int 0))) VL.gNil))))) (g2 dIx (gLook 4) (gC (.int 0))))) (gRet (gC .non)) gNext)
 (gRet (g2 dAdd (g2 dAdd (gCut (gVar 1) (fun _ => some none) (gPart (gLook 3))) (g2 dIx (gLook 4) (gC (.int 1)))) (gCut (gVar 1) (gPart (g2 dAdd (gLook 3) (gCall fLen (VL.gCons (g2 dIx (gLook 4) (gC (.int 0))) VL.gNil)))) (fun _ => some none)))))))

def m__law_rewrite (A : Ad) : List D → Option Res := mOf 4 5 (g__law_rewrite A)

def g__law_follow (A : Ad) : GS :=
 (gSeq (gAsgN 2 (gLen (VL.gCons (VL.gTup (VL.gCons (gC (.int 0)) VL.gNil)) VL.gNil)))
 (gSeq (gFor (gIt (gVar 1)) (fName 3) (gSeq (gAsg (gFn (m__law_rewrite A) (VL.gCons (gVar 0) (VL.gCons (g2 dIx (gLook 2) (g2 dSub (gCall fLen (VL.gCons (gLook 2) VL.gNil)) (gC (.int 1)))) (VL.gCons (g2 dIx (gLook 3) (gC (.int 0))) (VL.gCons (g2 dIx (gLook 3) (gC (.int 1))) VL.gNil))))) (fName 4))
 (gSeq (gIf (gB (g2 dIs (gLook 4) (gC .non))) gBreak gNext)
 (gAppend 2 (gVar 4)))))
 (gRet (gVar 2))))

def m__law_follow (A : Ad) : List D → Option Res := mOf 2 5 (g__law_follow A)

def g__law_changed_row (A : Ad) : GS :=
 (gSeq (gAsg (g2 dMod (gCall fInt (VL.gCons (g2 dIx (gLook 2) (gC (.int 1))) VL.gNil)) (gCall fLen (VL.gCons (gLook 1) VL.gNil))) (fName 3))
 (gSeq (gAsg (gFn (m__law_follow A) (VL.gCons (gVar 0) (VL.gCons (gVar 1) VL.gNil))) (fName 4))
 (gSeq (gAsg (g2 dIx (g2 dIx (gLook 1) (gLook 3)) (gC (.int 0))) (fName 5))
 (gSeq (gAsg (g2 dIx (g2 dIx (gLook 1) (gLook 3)) (gC (.int 1))) (fName 6))
 (gSeq (gIf (gB (g2 dEq (g2 dIx (gLook 2) (gC (.int 0))) (gC (.int 10)))) (gRet (g2 dAdd (gCut (gVar 1) (fun _ => some none) (gPart (gLook 3))) (gCut (gVar 1) (gPart (g2 dAdd (gLook 3) (gC (.int 1)))) (fun _ => some none)))) gNext)
 (gSeq (gIf (gB (g2 dEq (g2 dIx (gLook 2) (gC (.int 0))) (gC (.int 11)))) (gRet (g2 dAdd (gCut (gVar 1) (fun _ => some none) (gPart (g2 dAdd (gLook 3) (gC (.int 1))))) (gCut (gVar 1) (gPart (gLook 3)) (fun _ => some none)))) gNext)
 (gSeq (gIf (gB (g2 dEq (g2 dIx (gLook 2) (gC (.int 0))) (gC (.int 12)))) (gRet (g2 dAdd (g2 dAdd (g2 dAdd (gCut (gVar 1) (fun _ => some none) (gPart (gLook 3))) (gCut (gVar 1) (gPart (g2 dAdd (gLook 3) (gC (.int 1)))) (gPart (g2 dAdd (gLook 3) (gC (.int 2)))))) (gL (gLen (VL.gCons (g2 dIx (gLook 1) (gLook 3)) VL.gNil)))) (gCut (gVar 1) (gPart (g2 dAdd (gLook 3) (gC (.int 2)))) (fun _ => some none)))) gNext)
 (gSeq (gAsg (gL (gLen (VL.gCons (VL.gTup (VL.gCons (g2 dSub (gLook 5) (gCall fLen (VL.gCons (gLook 0) VL.gNil))) (VL.gCons (gVar 6) VL.gNil))) (VL.gCons (VL.gTup (VL.gCons (gVar 5) (VL.gCons (g2 dSub (gLook 6) (gCall fLen (VL.gCons (g2 dIx (gLook 4) (gLook 3)) VL.gNil))) VL.gNil))) (VL.gCons (VL.gTup (VL.gCons (gCall fLen (VL.gCons (gLook 0) VL.gNil)) (VL.gCons (gVar 6) VL.gNil))) VL.gNil))))) (fName 7))
 (gSeq (gAsg (g2 dAdd (gVar 7) (gL (gLen (VL.gCons (VL.gTup (VL.gCons (gVar 5) (VL.gCons (gCall fLen (VL.gCons (g2 dIx (gLook 4) (gLook 3)) VL.gNil)) VL.gNil))) (VL.gCons (VL.gTup (VL.gCons (g2 dMod (gCall fInt (VL.gCons (g2 dIx (gLook 2) (gC (.int 2))) VL.gNil)) (gCall fLen (VL.gCons (gLook 0) VL.gNil))) (VL.gCons (gVar 6) VL.gNil))) (VL.gCons (VL.gTup (VL.gCons (gVar 5) (VL.gCons (g2 dMod (gCall fInt (VL.gCons (g2 dIx (gLook 2) (gC (.int 3))) VL.gNil)) (gCall fLen (VL.gCons (g2 dIx (gLook 4) (gLook 3)) VL.gNil))) VL.gNil))) VL.gNil)))))) (fName 7))
 (gSeq (gAsg (g2 dAdd (gVar 7) (gL (gLen (VL.gCons (VL.gTup (VL.gCons (g2 dAdd (gCall fLen (VL.gCons (gLook 0) VL.gNil)) (g2 dIx (gLook 2) (gC (.int 4)))) (VL.gCons (gVar 6) VL.gNil))) (VL.gCons (VL.gTup (VL.gCons (gVar 5) (VL.gCons (g2 dAdd (gCall fLen (VL.gCons (g2 dIx (gLook 4) (gLook 3)) VL.gNil)) (g2 dIx (gLook 2) (gC (.int 4)))) VL.gNil))) (VL.gCons (VL.gTup (VL.gCons (gNeg (gC (.int 1))) (VL.gCons (gVar 6) VL.gNil))) (VL.gCons (VL.gTup (VL.gCons (gVar 5) (VL.gCons (g2 dSub (gNeg (gC (.int 1))) (g2 dIx (gLook 2) (gC (.int 3)))) VL.gNil))) VL.gNil))))))) (fName 7))
 (gRet (g2 dAdd (g2 dAdd (gCut (gVar 1) (fun _ => some none) (gPart (gLook 3))) (gL (gLen (VL.gCons (g2 dIx (gLook 7) (g2 dIx (gLook 2) (gC (.int 0)))) VL.gNil)))) (gCut (gVar 1) (gPart (g2 dAdd (gLook 3) (gC (.int 1)))) (fun _ => some none))))))))))))))

def m__law_changed_row (A : Ad) : List D → Option Res := mOf 3 8 (g__law_changed_row A)

def g__law_choices (A : Ad) : GS :=
 (gSeq (gAsgN 2 (gLen VL.gNil))
 (gSeq (gFor (gRg1 (VL.gCons (gCall fLen (VL.gCons (gLook 0) VL.gNil)) VL.gNil)) (fName 3) (gFor (gRg1 (VL.gCons (gCall fLen (VL.gCons (gLook 1) VL.gNil)) VL.gNil)) (fName 4) (gIf (gAnd (gB (g2 dEq (g2 dIx (gLook 1) (gLook 4)) (g2 dIx (g2 dIx (g2 dIx (gLook 0) (gLook 3)) (gC (.int 0))) (gC (.int 0))))) (gB (g2 dIsNot (gFn (m__law_rewrite A) (VL.gCons (gLook 0) (VL.gCons (gLook 1) (VL.gCons (gLook 3) (VL.gCons (gLook 4) VL.gNil))))) (gC .non)))) (gAppend 2 (VL.gTup (VL.gCons (gVar 3) (VL.gCons (gVar 4) VL.gNil)))) gNext)))
 (gRet (gVar 2))))

def m__law_choices (A : Ad) : List D → Option Res := mOf 2 5 (g__law_choices A)

def g__law_spots (A : Ad) : GS :=
 (gRet (gL (gLc (gRg1 (VL.gCons (gCall fLen (VL.gCons (gLook 0) VL.gNil)) VL.gNil)) (fName 1) (gNot (gTru (gIsi "str" (g2 dIx (gLook 0) (gLook 1))))) (gVar 1) [1])))

def m__law_spots (A : Ad) : List D → Option Res := mOf 1 2 (g__law_spots A)

def g__law_closes (A : Ad) : GS :=
 (gRet (gBl (gAnd (gB (g2 dEq (gCall fLen (VL.gCons (g2 dIx (gLook 0) (gC (.int 0))) VL.gNil)) (gC (.int 1)))) (gB (g2 dEq (gCall fLen (VL.gCons (gFn (m__law_spots A) (VL.gCons (g2 dIx (gLook 0) (gC (.int 1))) VL.gNil)) VL.gNil)) (gC (.int 0)))))))

def m__law_closes (A : Ad) : List D → Option Res := mOf 1 1 (g__law_closes A)

def g__law_drawn_row (A : Ad) : GS :=
 (gSeq (gAsg (gFn (m__law_digits A) (VL.gCons (gFn (m__law_cell A) (VL.gCons (gVar 0) (VL.gCons (gC (.int 11)) VL.gNil))) (VL.gCons (gL (gLen (VL.gCons (gC (.int 8)) (VL.gCons (gC (.int 36)) (VL.gCons (gC (.int 36)) VL.gNil))))) VL.gNil))) (fName 2))
 (gSeq (gAsg (gFn (m__law_digits A) (VL.gCons (gFn (m__law_cell A) (VL.gCons (gVar 0) (VL.gCons (gC (.int 12)) VL.gNil))) (VL.gCons (g2 dMul (gL (gLen (VL.gCons (gC (.int 2520)) VL.gNil))) (gC (.int 9))) VL.gNil))) (fName 3))
 (gSeq (gAsgN 4 (gLen VL.gNil))
 (gSeq (gAsg (VL.gTup (VL.gCons (gC (.int 0)) VL.gNil)) (fName 5))
 (gSeq (gAsg (g2 dAdd (gC (.int 2)) (g2 dIx (gLook 2) (gC (.int 0)))) (fName 6))
 (gSeq (gIf (gB (g2 dEq (g2 dIx (gLook 2) (gC (.int 0))) (gC (.int 7)))) (gAsg (gC (.int 20)) (fName 6)) gNext)
 (gSeq (gFor (gRg1 (VL.gCons (gLook 6) VL.gNil)) (fName 7) (gSeq (gAsg (gFn (m__law_choices A) (VL.gCons (gVar 1) (VL.gCons (gVar 5) VL.gNil))) (fName 8))
 (gSeq (gAsg (gL (gLc (gIt (gVar 8)) (fName 12) (gNot (gTru (gFn (m__law_closes A) (VL.gCons (g2 dIx (gLook 1) (g2 dIx (gLook 12) (gC (.int 0)))) VL.gNil)))) (gVar 12) [12])) (fName 9))
 (gSeq (gAsg (gL (gLc (gIt (gVar 8)) (fName 12) (gB (g2 dGt (gCall fLen (VL.gCons (g2 dIx (g2 dIx (gLook 1) (g2 dIx (gLook 12) (gC (.int 0)))) (gC (.int 0))) VL.gNil)) (gC (.int 1)))) (gVar 12) [12])) (fName 10))
 (gSeq (gAsg (gCall fInt (VL.gCons (g2 dAdd (g2 dIx (gLook 3) (g2 dMod (gCall fInt (VL.gCons (gLook 7) VL.gNil)) (gC (.int 9)))) (g2 dMul (gC (.int 7)) (gLook 7))) VL.gNil)) (fName 11))
 (gSeq (gIf (gAnd (gB (g2 dGt (gCall fLen (VL.gCons (gLook 10) VL.gNil)) (gC (.int 0)))) (gB (g2 dGt (g2 dMod (gCall fInt (VL.gCons (gLook 11) VL.gNil)) (gC (.int 4))) (gC (.int 1))))) (gAsg (gVar 10) (fName 8)) (gIf (gAnd (gB (g2 dGt (gCall fLen (VL.gCons (gLook 9) VL.gNil)) (gC (.int 0)))) (gB (g2 dGt (g2 dMod (gCall fInt (VL.gCons (gLook 11) VL.gNil)) (gC (.int 4))) (gC (.int 0))))) (gAsg (gVar 9) (fName 8)) gNext))
 (gSeq (gIf (gB (g2 dEq (gCall fLen (VL.gCons (gLook 8) VL.gNil)) (gC (.int 0)))) gBreak gNext)
 (gSeq (gAsg (g2 dIx (gLook 8) (g2 dMod (gCall fInt (VL.gCons (g2 dFdiv (gLook 11) (gC (.int 4))) VL.gNil)) (gCall fLen (VL.gCons (gLook 8) VL.gNil)))) (fName 12))
 (gSeq (gAppend 4 (gVar 12))
 (gAsg (gFn (m__law_rewrite A) (VL.gCons (gVar 1) (VL.gCons (gVar 5) (VL.gCons (g2 dIx (gLook 12) (gC (.int 0))) (VL.gCons (g2 dIx (gLook 12) (gC (.int 1))) VL.gNil))))) (fName 5)))))))))))
 (gSeq (gFor (gRg1 (VL.gCons (gC (.int 80)) VL.gNil)) (fName 7) (gSeq (gAsg (gFn (m__law_spots A) (VL.gCons (gVar 5) VL.gNil)) (fName 13))
 (gSeq (gIf (gB (g2 dEq (gCall fLen (VL.gCons (gLook 13) VL.gNil)) (gC (.int 0)))) gBreak gNext)
 (gSeq (gAsg (g2 dIx (gLook 13) (g2 dMod (gCall fInt (VL.gCons (g2 dAdd (g2 dIx (gLook 2) (gC (.int 1))) (g2 dMul (gC (.int 5)) (gLook 7))) VL.gNil)) (gCall fLen (VL.gCons (gLook 13) VL.gNil)))) (fName 14))
 (gSeq (gAsg (gL (gLc (gRg1 (VL.gCons (gCall fLen (VL.gCons (gLook 1) VL.gNil)) VL.gNil)) (fName 16) (gAnd (gB (g2 dEq (g2 dIx (g2 dIx (gLook 1) (gLook 16)) (gC (.int 0))) (VL.gTup (VL.gCons (g2 dIx (gLook 5) (gLook 14)) VL.gNil)))) (gTru (gFn (m__law_closes A) (VL.gCons (g2 dIx (gLook 1) (gLook 16)) VL.gNil)))) (gVar 16) [16])) (fName 15))
 (gSeq (gIf (gB (g2 dEq (gCall fLen (VL.gCons (gLook 15) VL.gNil)) (gC (.int 0)))) gBreak gNext)
 (gSeq (gAppend 4 (VL.gTup (VL.gCons (g2 dIx (gLook 15) (g2 dMod (gCall fInt (VL.gCons (g2 dAdd (g2 dIx (gLook 2) (gC (.int 2))) (gLook 7)) VL.gNil)) (gCall fLen (VL.gCons (gLook 15) VL.gNil)))) (VL.gCons (gVar 14) VL.gNil))))
 (gAsg (gFn (m__law_rewrite A) (VL.gCons (gVar 1) (VL.gCons (gVar 5) (VL.gCons (g2 dIx (gLook 15) (g2 dMod (gCall fInt (VL.gCons (g2 dAdd (g2 dIx (gLook 2) (gC (.int 2))) (gLook 7)) VL.gNil)) (gCall fLen (VL.gCons (gLook 15) VL.gNil)))) (VL.gCons (gVar 14) VL.gNil))))) (fName 5)))))))))
 (gRet (gVar 4))))))))))

def m__law_drawn_row (A : Ad) : List D → Option Res := mOf 2 17 (g__law_drawn_row A)

def g__law_form_told (A : Ad) : GS :=
 (gSeq (gAsg (gL (gCat (gL (gLRg (gR2 (gNeg (gC (.int 2))) (g2 dAdd (gCall fLen (VL.gCons (gLook 1) VL.gNil)) (gC (.int 2)))))) (gL (gLen (VL.gCons (gNeg (gCall fLen (VL.gCons (gLook 1) VL.gNil))) (VL.gCons (g2 dAdd (gCall fLen (VL.gCons (gLook 1) VL.gNil)) (gVar 3)) VL.gNil)))))) (fName 4))
 (gSeq (gAsg (gL (gCat (gL (gLRg (gR2 (g2 dSub (gNeg (gCall fLen (VL.gCons (gLook 2) VL.gNil))) (gC (.int 1))) (g2 dAdd (gCall fLen (VL.gCons (gLook 2) VL.gNil)) (gC (.int 2)))))) (gL (gLen (VL.gCons (g2 dAdd (g2 dAdd (gCall fLen (VL.gCons (gLook 2) VL.gNil)) (gC (.int 1))) (gVar 3)) VL.gNil))))) (fName 5))
 (gSeq (gAsg (gL (gItems (gVar 2))) (fName 6))
 (gSeq (gFor (gIt (gVar 4)) (fName 7) (gFor (gIt (gVar 5)) (fName 8) (gSeq (gAsg (gFn (m__law_rewrite A) (VL.gCons (gVar 1) (VL.gCons (gVar 2) (VL.gCons (gVar 7) (VL.gCons (gVar 8) VL.gNil))))) (fName 9))
 (gSeq (gAsg (gFn (m_rewritten A) (VL.gCons (gVar 0) (VL.gCons (g2 dIx (gL (gLen (VL.gCons (gVar 6) (VL.gCons (gVar 2) VL.gNil)))) (g2 dMod (gCall fInt (VL.gCons (gLook 7) VL.gNil)) (gC (.int 2)))) (VL.gCons (gVar 7) (VL.gCons (gVar 8) VL.gNil))))) (fName 10))
 (gIf (gB (g2 dIs (gLook 9) (gC .non))) (gIf (gB (g2 dIsNot (gLook 10) (gC .non))) (gRet (gC (.bl false))) gNext) (gIf (gNot (gTru (gFn (m__law_side_alike A) (VL.gCons (gLook 10) (VL.gCons (gLook 9) VL.gNil))))) (gRet (gC (.bl false))) gNext))))))
 (gRet (gFn (m__law_side_alike A) (VL.gCons (gCall fTuple (VL.gCons (gVar 6) VL.gNil)) (VL.gCons (gVar 2) VL.gNil))))))))

def m__law_form_told (A : Ad) : List D → Option Res := mOf 4 11 (g__law_form_told A)

def g__law_handed (A : Ad) : GS :=
 (gSeq (gIf (gB (g2 dEq (gLook 1) (gC (.int 0)))) (gRet (gL (gLc (gIt (gVar 0)) (fName 2) gYes (gL (gLen (VL.gCons (g2 dIx (gLook 2) (gC (.int 0))) (VL.gCons (g2 dIx (gLook 2) (gC (.int 1))) VL.gNil)))) [2]))) gNext)
 (gSeq (gIf (gB (g2 dEq (gLook 1) (gC (.int 1)))) (gRet (gL (gLc (gIt (gVar 0)) (fName 2) gYes (VL.gTup (VL.gCons (g2 dIx (gLook 2) (gC (.int 0))) (VL.gCons (g2 dIx (gLook 2) (gC (.int 1))) VL.gNil))) [2]))) gNext)
 (gRet (gCall fTuple (VL.gCons (gL (gLc (gIt (gVar 0)) (fName 2) gYes (VL.gTup (VL.gCons (g2 dIx (gLook 2) (gC (.int 0))) (VL.gCons (g2 dIx (gLook 2) (gC (.int 1))) VL.gNil))) [2])) VL.gNil)))))

def m__law_handed (A : Ad) : List D → Option Res := mOf 2 3 (g__law_handed A)

def g__law_row_told (A : Ad) : GS :=
 (gSeq (gAsg (gFn (m__law_follow A) (VL.gCons (gVar 1) (VL.gCons (gVar 2) VL.gNil))) (fName 4))
 (gSeq (gAsg (gFn (m__law_handed A) (VL.gCons (gVar 2) (VL.gCons (gVar 3) VL.gNil))) (fName 5))
 (gSeq (gFor (gRg1 (VL.gCons (gC (.int 2)) VL.gNil)) (fName 6) (gSeq (gAsg (gImm (gFn (m__law_asked A) (VL.gCons (gLook 6) (VL.gCons (gLook 0) (VL.gCons (gLook 5) VL.gNil))))) (fName 7))
 (gIf (gB (g2 dLe (gCall fLen (VL.gCons (gLook 4) VL.gNil)) (gCall fLen (VL.gCons (gLook 2) VL.gNil)))) (gIf (gOr (gB (g2 dNe (g2 dIx (gLook 7) (gC (.int 0))) (gC (.str "row")))) (gOr (gNot (gTru (gFn (m__law_whole A) (VL.gCons (g2 dIx (gLook 7) (gC (.int 1))) VL.gNil)))) (gB (g2 dNe (g2 dIx (gLook 7) (gC (.int 1))) (g2 dSub (gCall fLen (VL.gCons (gLook 4) VL.gNil)) (gC (.int 1))))))) (gRet (gC (.bl false))) gNext) (gIf (gB (g2 dNe (g2 dIx (gLook 7) (gC (.int 0))) (gC (.str "told")))) (gRet (gC (.bl false))) (gIf (gAnd (gB (g2 dEq (gLook 6) (gC (.int 0)))) (gNot (gTru (gFn (m__law_forms_alike A) (VL.gCons (g2 dIx (gLook 7) (gC (.int 1))) (VL.gCons (gLook 4) VL.gNil)))))) (gRet (gC (.bl false))) (gIf (gAnd (gB (g2 dEq (gLook 6) (gC (.int 1)))) (gNot (gTru (gFn (m__law_side_alike A) (VL.gCons (g2 dIx (gLook 7) (gC (.int 1))) (VL.gCons (g2 dIx (gLook 4) (g2 dSub (gCall fLen (VL.gCons (gLook 4) VL.gNil)) (gC (.int 1)))) VL.gNil)))))) (gRet (gC (.bl false))) gNext))))))
 (gRet (g2 dEq (gLook 5) (gFn (m__law_handed A) (VL.gCons (gLook 2) (VL.gCons (gLook 3) VL.gNil))))))))

def m__law_row_told (A : Ad) : List D → Option Res := mOf 4 8 (g__law_row_told A)

def g__law_closing_rules (A : Ad) : GS :=
 (gSeq (gAsg (gFn (m__law_digits A) (VL.gCons (gVar 0) (VL.gCons (g2 dMul (gL (gLen (VL.gCons (gC (.int 3)) (VL.gCons (gC (.int 24)) (VL.gCons (gC (.int 24)) VL.gNil))))) (gVar 2)) VL.gNil))) (fName 4))
 (gSeq (gAsgN 5 (gLen VL.gNil))
 (gSeq (gFor (gRg1 (VL.gCons (gLook 2) VL.gNil)) (fName 6) (gSeq (gAsg (gL (gLc (gIt (gCut (gVar 4) (gPart (g2 dAdd (g2 dMul (gC (.int 3)) (gLook 6)) (gC (.int 1)))) (gPart (g2 dAdd (g2 dAdd (g2 dMul (gC (.int 3)) (gLook 6)) (gC (.int 1))) (g2 dIx (gLook 4) (g2 dMul (gC (.int 3)) (gLook 6))))))) (fName 8) gYes (g2 dIx (gLook 1) (g2 dMod (gCall fInt (VL.gCons (gLook 8) VL.gNil)) (gCall fLen (VL.gCons (gLook 1) VL.gNil)))) [8])) (fName 7))
 (gIf (gB (g2 dNe (gLook 6) (gLook 3))) (gAppend 5 (VL.gTup (VL.gCons (VL.gTup (VL.gCons (gVar 6) VL.gNil)) (VL.gCons (gCall fTuple (VL.gCons (gVar 7) VL.gNil)) VL.gNil)))) gNext)))
 (gRet (gVar 5)))))

def m__law_closing_rules (A : Ad) : List D → Option Res := mOf 4 9 (g__law_closing_rules A)

def g__law_symbol (A : Ad) : GS :=
 (gSeq (gIf (gB (g2 dEq (g2 dMod (gCall fInt (VL.gCons (gLook 0) VL.gNil)) (gC (.int 2))) (gC (.int 0)))) (gRet (g2 dIx (gLook 1) (g2 dMod (gCall fInt (VL.gCons (g2 dFdiv (gLook 0) (gC (.int 2))) VL.gNil)) (gCall fLen (VL.gCons (gLook 1) VL.gNil))))) gNext)
 (gRet (g2 dMod (gCall fInt (VL.gCons (g2 dFdiv (gLook 0) (gC (.int 2))) VL.gNil)) (gLook 2))))

def m__law_symbol (A : Ad) : List D → Option Res := mOf 3 3 (g__law_symbol A)

def g__law_grown_rules (A : Ad) : GS :=
 (gSeq (gAsgN 4 (gLen VL.gNil))
 (gSeq (gAsg (VL.gTup (VL.gCons (gC (.int 0)) VL.gNil)) (fName 5))
 (gSeq (gFor (gRg1 (VL.gCons (gLook 3) VL.gNil)) (fName 6) (gSeq (gAsg (gFn (m__law_digits A) (VL.gCons (gFn (m__law_cell A) (VL.gCons (gVar 0) (VL.gCons (g2 dAdd (gC (.int 2)) (gVar 6)) VL.gNil))) (VL.gCons (gL (gCat (gL (gLen (VL.gCons (gC (.int 24)) (VL.gCons (gC (.int 4)) (VL.gCons (gC (.int 7)) VL.gNil))))) (g2 dMul (gL (gLen (VL.gCons (gC (.int 48)) VL.gNil))) (gC (.int 4))))) VL.gNil))) (fName 7))
 (gSeq (gAsg (gFn (m__law_spots A) (VL.gCons (gVar 5) VL.gNil)) (fName 8))
 (gSeq (gIf (gB (g2 dEq (gCall fLen (VL.gCons (gLook 8) VL.gNil)) (gC (.int 0)))) (gSeq (gAsg (VL.gTup (VL.gCons (gC (.int 0)) VL.gNil)) (fName 5))
 (gAsg (gL (gLen (VL.gCons (gC (.int 0)) VL.gNil))) (fName 8))) gNext)
 (gSeq (gAsg (g2 dIx (gLook 8) (g2 dMod (gCall fInt (VL.gCons (g2 dIx (gLook 7) (gC (.int 0))) VL.gNil)) (gCall fLen (VL.gCons (gLook 8) VL.gNil)))) (fName 9))
 (gSeq (gAsg (gCall fMax (VL.gCons (gC (.int 0)) (VL.gCons (g2 dSub (gLook 9) (g2 dMod (gCall fInt (VL.gCons (g2 dIx (gLook 7) (gC (.int 1))) VL.gNil)) (gC (.int 2)))) VL.gNil))) (fName 10))
 (gSeq (gAsg (gCall fMin (VL.gCons (gCall fLen (VL.gCons (gLook 5) VL.gNil)) (VL.gCons (g2 dAdd (g2 dAdd (gLook 9) (gC (.int 1))) (g2 dFdiv (g2 dIx (gLook 7) (gC (.int 1))) (gC (.int 2)))) VL.gNil))) (fName 11))
 (gSeq (gAsg (g2 dIx (gL (gLen (VL.gCons (gC (.int 1)) (VL.gCons (gC (.int 2)) (VL.gCons (gC (.int 3)) (VL.gCons (gC (.int 0)) (VL.gCons (gC (.int 4)) (VL.gCons (gC (.int 2)) (VL.gCons (gC (.int 3)) VL.gNil))))))))) (g2 dIx (gLook 7) (gC (.int 2)))) (fName 12))
 (gSeq (gIf (gB (g2 dEq (gLook 6) (gC (.int 0)))) (gAsg (g2 dIx (gL (gLen (VL.gCons (gC (.int 2)) (VL.gCons (gC (.int 3)) (VL.gCons (gC (.int 4)) (VL.gCons (gC (.int 2)) (VL.gCons (gC (.int 3)) (VL.gCons (gC (.int 4)) (VL.gCons (gC (.int 3)) VL.gNil))))))))) (g2 dIx (gLook 7) (gC (.int 2)))) (fName 12)) gNext)
 (gSeq (gAsgN 13 (gLc (gIt (gCut (gVar 7) (gPart (gC (.int 3))) (gPart (g2 dAdd (gC (.int 3)) (gLook 12))))) (fName 14) gYes (gFn (m__law_symbol A) (VL.gCons (gVar 14) (VL.gCons (gVar 1) (VL.gCons (gVar 2) VL.gNil)))) [14]))
 (gSeq (gIf (gB (g2 dEq (gLook 6) (gC (.int 0)))) (gSetIx 13 (g2 dMod (gCall fInt (VL.gCons (g2 dIx (gLook 7) (gC (.int 0))) VL.gNil)) (gLook 12)) (g2 dMod (gCall fInt (VL.gCons (g2 dAdd (g2 dIx (gLook 7) (gC (.int 0))) (g2 dIx (gLook 7) (gC (.int 3)))) VL.gNil)) (gLook 2))) gNext)
 (gSeq (gFrz 13 (gAsg (gCall fTuple (VL.gCons (gVar 13) VL.gNil)) (fName 13)))
 (gSeq (gFrz 13 (gAppend 4 (VL.gTup (VL.gCons (gCut (gVar 5) (gPart (gLook 10)) (gPart (gLook 11))) (VL.gCons (gVar 13) VL.gNil)))))
 (gFrz 13 (gAsg (g2 dAdd (g2 dAdd (gCut (gVar 5) (fun _ => some none) (gPart (gLook 10))) (gVar 13)) (gCut (gVar 5) (gPart (gLook 11)) (fun _ => some none))) (fName 5))))))))))))))))
 (gRet (gVar 4)))))

def m__law_grown_rules (A : Ad) : List D → Option Res := mOf 4 15 (g__law_grown_rules A)

def g__law_rules (A : Ad) : GS :=
 (gSeq (gAsg (gFn (m__law_digits A) (VL.gCons (gFn (m__law_cell A) (VL.gCons (gVar 0) (VL.gCons (gC (.int 9)) VL.gNil))) (VL.gCons (gL (gLen (VL.gCons (gC (.int 5)) (VL.gCons (gC (.int 4)) (VL.gCons (gC (.int 12)) (VL.gCons (gC (.int 4)) (VL.gCons (gC (.int 12)) (VL.gCons (gC (.int 20)) (VL.gCons (gC (.int 2)) VL.gNil))))))))) VL.gNil))) (fName 3))
 (gSeq (gAsg (gVar 2) (fName 4))
 (gSeq (gIf (gB (g2 dEq (g2 dIx (gLook 3) (gC (.int 1))) (gC (.int 0)))) (gAsg (g2 dMod (gCall fInt (VL.gCons (g2 dIx (gLook 3) (gC (.int 2))) VL.gNil)) (gLook 2)) (fName 4)) gNext)
 (gSeq (gAsg (gFn (m__law_grown_rules A) (VL.gCons (gVar 0) (VL.gCons (gVar 1) (VL.gCons (gVar 2) (VL.gCons (g2 dAdd (gC (.int 3)) (g2 dIx (gLook 3) (gC (.int 0)))) VL.gNil))))) (fName 5))
 (gSeq (gFrz 5 (gAsgN 5 (gCat (gVar 5) (gFn (m__law_closing_rules A) (VL.gCons (gFn (m__law_cell A) (VL.gCons (gVar 0) (VL.gCons (gC (.int 10)) VL.gNil))) (VL.gCons (gVar 1) (VL.gCons (gVar 2) (VL.gCons (gVar 4) VL.gNil))))))))
 (gSeq (gIf (gB (g2 dEq (g2 dIx (gLook 3) (gC (.int 3))) (gC (.int 0)))) (gAppend 5 (g2 dIx (gLook 5) (g2 dMod (gCall fInt (VL.gCons (g2 dIx (gLook 3) (gC (.int 4))) VL.gNil)) (gCall fLen (VL.gCons (gLook 5) VL.gNil))))) gNext)
 (gSeq (gAsg (g2 dMod (gCall fInt (VL.gCons (g2 dIx (gLook 3) (gC (.int 5))) VL.gNil)) (gCall fLen (VL.gCons (gLook 5) VL.gNil))) (fName 6))
 (gSeq (gFrz 5 (gAsgN 5 (gCat (gCut (gVar 5) (gPart (gLook 6)) (fun _ => some none)) (gCut (gVar 5) (fun _ => some none) (gPart (gLook 6))))))
 (gSeq (gIf (gB (g2 dEq (g2 dIx (gLook 3) (gC (.int 6))) (gC (.int 1)))) (gAsgN 5 (gLc (gRg1 (VL.gCons (gCall fLen (VL.gCons (gLook 5) VL.gNil)) VL.gNil)) (fName 7) gYes (g2 dIx (gLook 5) (g2 dSub (g2 dSub (gCall fLen (VL.gCons (gLook 5) VL.gNil)) (gC (.int 1))) (gLook 7))) [7])) gNext)
 (gRet (gVar 5)))))))))))

def m__law_rules (A : Ad) : List D → Option Res := mOf 3 8 (g__law_rules A)

def g__law_texts_told (A : Ad) : GS :=
 (gSeq (gAsg (gFn (m__law_follow A) (VL.gCons (gVar 1) (VL.gCons (gVar 2) VL.gNil))) (fName 6))
 (gSeq (gAsg (g2 dJoin (gC (.str "")) (gL (gLc (gIt (g2 dIx (gLook 6) (g2 dSub (gCall fLen (VL.gCons (gLook 6) VL.gNil)) (gC (.int 1))))) (fName 13) gYes (gCall fStr (VL.gCons (gLook 13) VL.gNil)) [13]))) (fName 7))
 (gSeq (gAsg (g2 dJoin (gC (.str "")) (gL (gLc (gIt (g2 dIx (gLook 3) (g2 dSub (gCall fLen (VL.gCons (gLook 3) VL.gNil)) (gC (.int 1))))) (fName 13) gYes (gCall fStr (VL.gCons (gLook 13) VL.gNil)) [13]))) (fName 8))
 (gSeq (gAsg (gFn (m__law_handed A) (VL.gCons (gVar 2) (VL.gCons (gVar 5) VL.gNil))) (fName 9))
 (gSeq (gFor (gIt (gL (gLen (VL.gCons (gVar 7) (VL.gCons (gVar 8) (VL.gCons (g2 dAdd (gVar 7) (gVar 4)) (VL.gCons (g2 dAdd (gVar 4) (gVar 7)) (VL.gCons (gCut (gVar 7) (gPart (gC (.int 1))) (fun _ => some none)) (VL.gCons (gCut (gVar 7) (fun _ => some none) (gPart (g2 dSub (gCall fLen (VL.gCons (gLook 7) VL.gNil)) (gC (.int 1))))) (VL.gCons (gC (.str "")) (VL.gCons (gC (.str "0")) (VL.gCons (g2 dAdd (gC (.str "Q")) (gCut (gVar 8) (gPart (gC (.int 1))) (fun _ => some none))) VL.gNil)))))))))))) (fName 10) (gSeq (gAsg (gBl (gAnd (gB (g2 dGt (gCall fLen (VL.gCons (gLook 6) VL.gNil)) (gCall fLen (VL.gCons (gLook 2) VL.gNil)))) (gB (g2 dEq (g2 dIx (gLook 6) (g2 dSub (gCall fLen (VL.gCons (gLook 6) VL.gNil)) (gC (.int 1)))) (gCall fTuple (VL.gCons (gL (gLc (gIt (gVar 10)) (fName 14) gYes (gVar 14) [14])) VL.gNil)))))) (fName 11))
 (gSeq (gAsg (gImm (gFn (m_is_derivation A) (VL.gCons (gLook 0) (VL.gCons (gLook 10) (VL.gCons (gLook 9) VL.gNil))))) (fName 12))
 (gIf (gOr (gNot (gTru (gIsi "bool" (gLook 12)))) (gB (g2 dNe (gLook 12) (gLook 11)))) (gRet (gC (.bl false))) gNext))))
 (gRet (g2 dEq (gLook 9) (gFn (m__law_handed A) (VL.gCons (gLook 2) (VL.gCons (gLook 5) VL.gNil))))))))))

def m__law_texts_told (A : Ad) : List D → Option Res := mOf 6 15 (g__law_texts_told A)

def g_law (A : Ad) : GS :=
 (gSeq (gAsg (gFn (m__law_alphabet A) (VL.gCons (gFn (m__law_cell A) (VL.gCons (gVar 0) (VL.gCons (gC (.int 0)) VL.gNil))) VL.gNil)) (fName 1))
 (gSeq (gAsg (gFn (m__law_digits A) (VL.gCons (gFn (m__law_cell A) (VL.gCons (gVar 0) (VL.gCons (gC (.int 1)) VL.gNil))) (VL.gCons (gL (gLen (VL.gCons (gC (.int 8)) (VL.gCons (gC (.int 4)) (VL.gCons (gC (.int 46)) (VL.gCons (gC (.int 48)) (VL.gCons (gC (.int 7)) (VL.gCons (gC (.int 3)) (VL.gCons (g2 dPow (gC (.int 10)) (gC (.int 12))) VL.gNil))))))))) VL.gNil))) (fName 2))
 (gSeq (gAsg (g2 dAdd (gC (.int 1)) (g2 dIx (gLook 2) (gC (.int 1)))) (fName 3))
 (gSeq (gIf (gB (g2 dEq (g2 dIx (gLook 2) (gC (.int 0))) (gC (.int 0)))) (gAsg (gC (.int 12)) (fName 3)) gNext)
 (gSeq (gAsg (gFn (m__law_rules A) (VL.gCons (gVar 0) (VL.gCons (gVar 1) (VL.gCons (gVar 3) VL.gNil)))) (fName 4))
 (gSeq (gAsg (gMake A.C_Grammar (i_Grammar A) (VL.gCons (gVar 1) (VL.gCons (gVar 3) (VL.gCons (gL (gLc (gIt (gVar 4)) (fName 19) gYes (gL (gLen (VL.gCons (gL (gItems (g2 dIx (gLook 19) (gC (.int 0))))) (VL.gCons (gL (gItems (g2 dIx (gLook 19) (gC (.int 1))))) VL.gNil)))) [19])) VL.gNil)))) (fName 5))
 (gSeq (gAsg (gFn (m__law_drawn_row A) (VL.gCons (gVar 0) (VL.gCons (gVar 4) VL.gNil))) (fName 6))
 (gSeq (gAsg (gFn (m__law_follow A) (VL.gCons (gVar 4) (VL.gCons (gVar 6) VL.gNil))) (fName 7))
 (gSeq (gIf (gOr (gB (g2 dEq (gCall fLen (VL.gCons (gLook 6) VL.gNil)) (gC (.int 0)))) (gB (g2 dNe (gCall fLen (VL.gCons (gLook 7) VL.gNil)) (g2 dAdd (gCall fLen (VL.gCons (gLook 6) VL.gNil)) (gC (.int 1)))))) (gRet (gC (.bl false))) gNext)
 (gSeq (gAsg (gFn (m__law_digits A) (VL.gCons (gFn (m__law_cell A) (VL.gCons (gVar 0) (VL.gCons (gC (.int 13)) VL.gNil))) (VL.gCons (g2 dMul (gL (gLen (VL.gCons (gC (.int 48)) VL.gNil))) (gC (.int 7))) VL.gNil))) (fName 8))
 (gSeq (gAsg (gCall fTuple (VL.gCons (gL (gLc (gIt (gCut (gVar 8) (fun _ => some none) (gPart (g2 dIx (gLook 2) (gC (.int 4)))))) (fName 20) gYes (gFn (m__law_symbol A) (VL.gCons (gVar 20) (VL.gCons (gVar 1) (VL.gCons (gVar 3) VL.gNil)))) [20])) VL.gNil)) (fName 9))
 (gSeq (gFor (gIt (gL (gLen (VL.gCons (g2 dIx (gLook 7) (g2 dMod (gCall fInt (VL.gCons (g2 dIx (gLook 2) (gC (.int 2))) VL.gNil)) (gCall fMin (VL.gCons (gCall fLen (VL.gCons (gLook 7) VL.gNil)) (VL.gCons (gC (.int 7)) VL.gNil))))) (VL.gCons (gVar 9) VL.gNil))))) (fName 10) (gIf (gNot (gTru (gFn (m__law_form_told A) (VL.gCons (gLook 5) (VL.gCons (gLook 4) (VL.gCons (gLook 10) (VL.gCons (g2 dIx (gLook 2) (gC (.int 6))) VL.gNil))))))) (gRet (gC (.bl false))) gNext))
 (gSeq (gAsg (g2 dJoin (gC (.str "")) (gL (gLc (gIt (g2 dIx (gLook 7) (g2 dSub (gCall fLen (VL.gCons (gLook 7) VL.gNil)) (gC (.int 1))))) (fName 21) gYes (gCall fStr (VL.gCons (gLook 21) VL.gNil)) [21]))) (fName 11))
 (gSeq (gIf (gNot (gTru (gFn (m__law_beginnings_told A) (VL.gCons (gLook 5) (VL.gCons (gLook 6) (VL.gCons (gLook 7) (VL.gCons (gLook 11) VL.gNil))))))) (gRet (gC (.bl false))) gNext)
 (gSeq (gAsg (gCut (gVar 6) (fun _ => some none) (gPart (g2 dMod (gCall fInt (VL.gCons (g2 dIx (gLook 2) (gC (.int 3))) VL.gNil)) (gCall fLen (VL.gCons (gLook 6) VL.gNil))))) (fName 12))
 (gSeq (gAsgN 13 (gLen (VL.gCons (gVar 6) (VL.gCons (gVar 12) (VL.gCons (gL (gLen VL.gNil)) (VL.gCons (g2 dAdd (gVar 6) (gL (gLen (VL.gCons (g2 dIx (gLook 6) (g2 dMod (gCall fInt (VL.gCons (g2 dIx (gLook 2) (gC (.int 3))) VL.gNil)) (gCall fLen (VL.gCons (gLook 6) VL.gNil)))) VL.gNil)))) VL.gNil))))))
 (gSeq (gAsg (gFn (m__law_digits A) (VL.gCons (gFn (m__law_cell A) (VL.gCons (gVar 0) (VL.gCons (gC (.int 18)) VL.gNil))) (VL.gCons (g2 dMul (gL (gLen (VL.gCons (gC (.int 24)) (VL.gCons (gC (.int 7)) VL.gNil)))) (gC (.int 6))) VL.gNil))) (fName 14))
 (gSeq (gAppend 13 (g2 dAdd (gCut (gVar 6) (fun _ => some none) (gPart (gC (.int 1)))) (gL (gLc (gRg1 (VL.gCons (gC (.int 6)) VL.gNil)) (fName 15) gYes (VL.gTup (VL.gCons (g2 dMod (gCall fInt (VL.gCons (g2 dIx (gLook 14) (g2 dMul (gC (.int 2)) (gLook 15))) VL.gNil)) (g2 dAdd (gCall fLen (VL.gCons (gLook 4) VL.gNil)) (gC (.int 1)))) (VL.gCons (g2 dSub (g2 dIx (gLook 14) (g2 dAdd (g2 dMul (gC (.int 2)) (gLook 15)) (gC (.int 1)))) (gC (.int 1))) VL.gNil))) [15]))))
 (gSeq (gFor (gRg1 (VL.gCons (gC (.int 4)) VL.gNil)) (fName 15) (gSeq (gAsg (gFn (m__law_digits A) (VL.gCons (gFn (m__law_cell A) (VL.gCons (gVar 0) (VL.gCons (g2 dAdd (gC (.int 14)) (gVar 15)) VL.gNil))) (VL.gCons (gL (gLen (VL.gCons (gC (.int 13)) (VL.gCons (gC (.int 48)) (VL.gCons (gC (.int 24)) (VL.gCons (gC (.int 36)) (VL.gCons (g2 dPow (gC (.int 10)) (gC (.int 20))) VL.gNil))))))) VL.gNil))) (fName 16))
 (gAppend 13 (gFn (m__law_changed_row A) (VL.gCons (gVar 4) (VL.gCons (gVar 6) (VL.gCons (gVar 16) VL.gNil)))))))
 (gSeq (gFor (gRg1 (VL.gCons (gCall fLen (VL.gCons (gLook 13) VL.gNil)) VL.gNil)) (fName 15) (gSeq (gIf (gNot (gTru (gFn (m__law_row_told A) (VL.gCons (gLook 5) (VL.gCons (gLook 4) (VL.gCons (g2 dIx (gLook 13) (gLook 15)) (VL.gCons (g2 dMod (gCall fInt (VL.gCons (g2 dAdd (g2 dIx (gLook 2) (gC (.int 5))) (gLook 15)) VL.gNil)) (gC (.int 3))) VL.gNil))))))) (gRet (gC (.bl false))) gNext)
 (gIf (gNot (gTru (gFn (m__law_texts_told A) (VL.gCons (gLook 5) (VL.gCons (gLook 4) (VL.gCons (g2 dIx (gLook 13) (gLook 15)) (VL.gCons (gLook 7) (VL.gCons (g2 dIx (gLook 1) (gC (.int 0))) (VL.gCons (g2 dMod (gCall fInt (VL.gCons (g2 dAdd (g2 dIx (gLook 2) (gC (.int 5))) (gLook 15)) VL.gNil)) (gC (.int 3))) VL.gNil))))))))) (gRet (gC (.bl false))) gNext)))
 (gSeq (gAsg (g2 dAdd (gCut (gVar 4) (gPart (gC (.int 1))) (fun _ => some none)) (gCut (gVar 4) (fun _ => some none) (gPart (gC (.int 1))))) (fName 17))
 (gSeq (gAsg (gMake A.C_Grammar (i_Grammar A) (VL.gCons (gVar 1) (VL.gCons (gVar 3) (VL.gCons (gL (gItems (gVar 17))) VL.gNil)))) (fName 18))
 (gSeq (gIf (gNot (gTru (gFn (m__law_row_told A) (VL.gCons (gLook 18) (VL.gCons (gLook 17) (VL.gCons (gLook 6) (VL.gCons (gC (.int 2)) VL.gNil))))))) (gRet (gC (.bl false))) gNext)
 (gSeq (gIf (gNot (gTru (gFn (m__law_texts_told A) (VL.gCons (gLook 18) (VL.gCons (gLook 17) (VL.gCons (gLook 6) (VL.gCons (gLook 7) (VL.gCons (g2 dIx (gLook 1) (gC (.int 0))) (VL.gCons (gC (.int 2)) VL.gNil))))))))) (gRet (gC (.bl false))) gNext)
 (gRet (gBl (gAnd (gB (gFn (m__law_row_told A) (VL.gCons (gLook 5) (VL.gCons (gLook 4) (VL.gCons (gLook 6) (VL.gCons (gC (.int 2)) VL.gNil)))))) (gB (gFn (m__law_texts_told A) (VL.gCons (gLook 5) (VL.gCons (gLook 4) (VL.gCons (gLook 6) (VL.gCons (gLook 7) (VL.gCons (g2 dIx (gLook 1) (gC (.int 0))) (VL.gCons (gC (.int 1)) VL.gNil)))))))))))))))))))))))))))))))))))

def m_law (A : Ad) : List D → Option Res := mOf 1 22 (g_law A)

end K40
end

section
namespace K40
open PySem PySem.Spec PyProof.Rows L2 VL
local macro_rules
  | `(tactic| trivial) => `(tactic| (simp [VL.envOf, VL.g2, gVar, gLook, gC, gCall, VL.gCons, VL.gNil, VL.gTup, gB, gTru, gBl, gNot, gAnd, gOr, gFn, gIt, gL, gLen, gChain, gIsi, dIsi, D.ty, D.iter, D.items, D.tru, fInt, fLen, fTuple, fMax, dAdd, dSub, dCmp, dLt, dLe, dGt, dGe, dIs, dIsNot, D.isNon, d_mod, d_fdiv, d_mul, d_pow, frzAll, frzCell, fName, *]; done))
variable (A : Ad)
def isV : Sy → Bool
  | .v _ => true
  | .l _ => false
def okSy (al : List Lt) (v : Int) : Sy → Bool
  | .v i => decide (0 ≤ i) && decide (i < v)
  | .l c => decide (c ∈ al)
theorem whole_run (i : Int) : m_is_whole A [.int i] = some (.val (.bl true)) := rfl
theorem is_variable_run (s : Sy) : m_is_variable A [s.D] = some (.val (.bl (isV s))) := by cases s <;> rfl
theorem is_symbol_run (al : List Lt) (v : Int) (s : Sy) : m_is_symbol A [s.D, alD al, .int v] = some (.val (.bl (okSy al v s))) := by
  cases s with
  | v i =>
    refine m_val rfl (wp_seq (wp_iff rfl (wp_next ?_)))
    refine wp_ret (d := .bl (decide (0 ≤ i) && decide (i < v))) ?_ rfl
    have h := whole_run A i
    by_cases h0 : 0 ≤ i <;> simp [VL.envOf, VL.g2, gVar, gLook, gC, gCall, VL.gCons, VL.gNil, gB, gBl, gAnd, gFn, gChain, dCmp, dLe, dLt, frzAll, frzCell, Sy.D, h, h0]
  | l c =>
    refine m_val rfl (wp_seq (wp_ift rfl ?_))
    refine wp_ret (d := .bl (decide (c ∈ al))) ?_ rfl
    have h1 : dEq (.int 1) (.int 1) = some (.bl true) := rfl
    have h2 : dIn (Sy.l c).D (alD al) = some (.bl (decide (c ∈ al))) := by
      show some (D.bl (decide (c.val ∈ (al.map Fin.val).toArray.toList))) = _
      congr 2
      refine decide_eq_decide.mpr ?_
      simp [Fin.ext_iff]
      constructor
      · rintro ⟨a, h1, h2⟩; rw [Fin.ext h2] at h1; exact h1
      · exact fun h => ⟨c, h, rfl⟩
    have h3 : fLen [(Sy.l c).D] = some (.int 1) := rfl
    trivial
def okRule (al : List Lt) (v : Int) (r : Rule) : Bool := (r.1 ++ r.2).all (okSy al v) && r.1.any isV
theorem add_form {f g : Form} (h : f.length + g.length ≤ sizeLine) : dAdd (fD f) (fD g) = some (fD (f ++ g)) := by
  show (if (f.map Sy.D).length + (g.map Sy.D).length ≤ sizeLine then some (D.tup (f.map Sy.D ++ g.map Sy.D)) else none) = _
  rw [if_pos (by simpa using h), ← List.map_append]
theorem is_rule_run (al : List Lt) (v : Int) (l r : Form) (hl : l.length + r.length ≤ 1000) : m_is_rule A [fD l, fD r, alD al, .int v] = some (.val (.bl (okRule al v (l, r)))) := by
  have key : ∃ d, m_is_rule A [fD l, fD r, alD al, .int v] = some (.val d) ∧ d = .bl (okRule al v (l, r)) := by
    refine m_ex rfl ?_
    have ha : dAdd (fD l) (fD r) = some (fD (l ++ r)) := add_form (by unfold sizeLine; omega)
    refine wp_seq (wp_for (ds := (l ++ r).map Sy.D) (e_items (d := fD (l ++ r)) ha rfl) ?_)
    refine wpl_all (fun done c => done.all (okSy al v) = true ∧ ∃ y, c = [some (.fz (fD l)), some (.fz (fD r)), some (.fz (alD al)), some (.fz (.int v)), y]) ⟨rfl, none, rfl⟩ ?_ ?_
    · rintro done x rest c q ⟨hd, y, rfl⟩
      refine ⟨_, rfl, ?_⟩
      have h := is_symbol_run A al v x
      refine wp_if (b := !okSy al v x) (by trivial) (fun hb => ?_) (fun hb => wp_next ?_)
      · refine wp_ret (d := .bl false) rfl ⟨_, rfl, ?_⟩
        have : (l ++ r).all (okSy al v) = false := by
          rw [q]; simp at hb; simp [hb]
        unfold okRule
        rw [this]; rfl
      · refine ⟨?_, _, rfl⟩
        simp at hb
        simp [hd, hb]
    · rintro c ⟨hd, y, rfl⟩
      refine wp_seq (wp_for (ds := l.map Sy.D) rfl ?_)
      refine wpl_all (fun done c => done.any isV = false ∧ ∃ y, c = [some (.fz (fD l)), some (.fz (fD r)), some (.fz (alD al)), some (.fz (.int v)), y]) ⟨rfl, _, rfl⟩ ?_ ?_
      · rintro done x rest c q ⟨hd2, y, rfl⟩
        refine ⟨_, rfl, ?_⟩
        have h := is_variable_run A x
        refine wp_if (b := isV x) (by trivial) (fun hb => ?_) (fun hb => wp_next ?_)
        · refine wp_ret (d := .bl true) rfl ⟨_, rfl, ?_⟩
          have h2 : l.any isV = true := by rw [q]; simp [hb]
          unfold okRule
          rw [hd, h2]; rfl
        · refine ⟨?_, _, rfl⟩
          simp only [List.any_append, hd2, List.any_cons, hb, List.any_nil, Bool.or_self]
      · rintro c ⟨hd2, y, rfl⟩
        refine wp_ret (d := .bl false) rfl ⟨_, rfl, ?_⟩
        unfold okRule
        rw [hd, hd2]; rfl
  obtain ⟨d, h1, rfl⟩ := key
  exact h1
/-! Grammar -/
theorem check_alphabet_run {d : D} (h : m_is_alphabet A [d] = some (.val (.bl true))) : m_check_alphabet A [d] = some (.val .non) := by
  refine m_val rfl ?_
  exact wp_iff (by trivial) (wp_next rfl)
abbrev gNs : List Str := ["alphabet", "variables", "rules"]
abbrev gD (al : List Lt) (v : Int) (rs : List Rule) : D := .ins A.C_Grammar gNs [alD al, .int v, .tup (rs.map rD)]
theorem Grammar_run (al : List Lt) (v : Int) (rs : List Rule) (ha : m_is_alphabet A [alD al] = some (.val (.bl true))) (hv : 1 ≤ v) (hr : ∀ r ∈ rs, okRule al v r = true ∧ r.1.length + r.2.length ≤ 1000) (hl : rs.length ≤ 10000) :
    i_Grammar A [alD al, .int v, .lst (rs.map rD)] = some (gNs, [alD al, .int v, .tup (rs.map rD)]) := by
  refine i_val rfl ?_
  have h1 := check_alphabet_run A ha
  refine wp_seq (wp_drop (d := .non) (e_fn (ds := [alD al]) rfl h1) ?_)
  refine wp_seq (wp_iff (p := gB (VL.g2 dLt (gLook 2) (gC (.int 1)))) ?_ (wp_next ?_))
  · show some (decide (v < 1)) = _
    simp; omega
  refine wp_seq (wp_asgN (ds := []) rfl ?_)
  refine wp_seq (wp_for (ds := enD 0 (rs.map rD)) rfl ?_)
  refine wpl_en (fun done c => ∃ y1 y2 y3 y4, c = [some (.slf A.C_Grammar [] []), some (.fz (alD al)), some (.fz (.int v)), some (.fz (.lst (rs.map rD))), some (.own (done.map rD)), y1, y2, y3, y4]) [] rs _ ⟨none, none, none, none, rfl⟩ ?_ ?_
  · rintro done x rest c q ⟨y1, y2, y3, y4, rfl⟩
    refine ⟨_, rfl, ?_⟩
    obtain ⟨h2, h3⟩ := hr x (by rw [← List.nil_append rs, q]; simp)
    refine wp_seq (wp_par (x := fD x.1) (y := fD x.2) rfl ?_)
    have h4 := is_rule_run A al v x.1 x.2 h3
    have h5 : m_is_rule A [fD x.1, fD x.2, alD al, .int v] = some (.val (.bl true)) := by rw [h4, h2]
    refine wp_seq (wp_iff ?_ (wp_next ?_))
    · exact e_not (e_tru (e_fn (ds := [fD x.1, fD x.2, alD al, .int v]) rfl h5) rfl)
    have hlen : done.length < 10000 := by
      have := congrArg List.length q
      simp at this
      omega
    refine wp_append (ds := done.map rD) (d := rD x) rfl rfl (by simp; unfold sizeLine; omega) ?_
    exact ⟨_, _, _, _, by rw [List.map_append]; rfl⟩
  · rintro c ⟨y1, y2, y3, y4, rfl⟩
    refine wp_seq (wp_fldS (d := alD al) rfl rfl ⟨by simp, by decide⟩ ?_)
    refine wp_seq (wp_fldS (d := .int v) rfl rfl ⟨by decide, by decide⟩ ?_)
    refine wp_frz (wp_fldS (d := .tup (rs.map rD)) rfl rfl ⟨by decide, by decide⟩ ?_)
    exact ⟨_, rfl, rfl⟩
theorem form_eq (f g : Form) : dEq (fD f) (fD g) = some (.bl (decide (f = g))) := Emb.form.eq (by decide) f g
theorem form_ne (f g : Form) : dNe (fD f) (fD g) = some (.bl (!decide (f = g))) := Emb.form.ne (by decide) f g
end K40
end

section
namespace K40
open PySem PySem.Spec PyProof.Rows L2 VL
variable (A : Ad)
/-- the law's own rewriting, and the program's -/
def rew (rs : List Rule) (f : Form) (n p : Int) : Option Form :=
  if 0 ≤ n ∧ 0 ≤ p then match rs[n.toNat]? with
    | some r => if (f.drop p.toNat).take r.1.length = r.1 then some (f.take p.toNat ++ r.2 ++ f.drop (p.toNat + r.1.length)) else none
    | none => none
  else none
def optD : Option Form → D
  | some f => fD f
  | none => .non
theorem e_lenF {c : VL.Env} {g : GE} {f : Form} (h : g c = some (fD f)) : gCall fLen (VL.gCons g VL.gNil) c = some (.int ((f.length : Nat) : Int)) := by
  have := e_len h (.inr (.inl rfl))
  rw [List.length_map] at this
  exact this
theorem cut_pre2 (f : Form) (p : Nat) : dCut (fD f) none (some (p : Int)) = some (fD (f.take p)) := by
  show some (D.tup (cutD (f.map Sy.D) _ _)) = _
  rw [cut_pre]
theorem cut_suf2 (f : Form) (p : Nat) : dCut (fD f) (some (p : Int)) none = some (fD (f.drop p)) := by
  show some (D.tup (cutD (f.map Sy.D) _ _)) = _
  rw [cut_suf]
theorem cut_any2 (f : Form) (p m : Nat) : dCut (fD f) (some (p : Int)) (some ((p : Int) + (m : Nat))) = some (fD ((f.drop p).take m)) := by
  show some (D.tup (cutD (f.map Sy.D) _ _)) = _
  rw [cut_any]
theorem rewritten_runD (al : List Lt) (v : Int) (rs : List Rule) (t : Form) (n p : Int) (d : D) (hd : d = fD t ∨ d = .lst (t.map Sy.D)) (hz : ∀ r ∈ rs, t.length + r.1.length + r.2.length ≤ 100000) :
    m_rewritten A [gD A al v rs, d, .int n, .int p] = some (.val (optD (rew rs t n p))) := by
  refine m_val rfl ?_
  have hru : ∀ c : VL.Env, gLook 0 c = some (gD A al v rs) → gFld A.C_Grammar "rules" (gLook 0) c = some (.tup (rs.map rD)) := fun c h => e_fld h rfl
  have hru2 : ∀ c : VL.Env, gVar 0 c = some (gD A al v rs) → gFld A.C_Grammar "rules" (gVar 0) c = some (.tup (rs.map rD)) := fun c h => e_fld h rfl
  have hch : gChain dLe dLt (gC (.int 0)) (gLook 2) (gCall fLen (VL.gCons (gFld A.C_Grammar "rules" (gLook 0)) VL.gNil)) (VL.envOf 7 [gD A al v rs, d, .int n, .int p]) = some (.bl (decide (0 ≤ n) && decide (n < rs.length))) := by
    have hl := e_len (hru (VL.envOf 7 [gD A al v rs, d, .int n, .int p]) rfl) (.inr (.inl rfl))
    rw [List.length_map] at hl
    by_cases h0 : 0 ≤ n
    · have : (gChain dLe dLt (gC (.int 0)) (gLook 2) (gCall fLen (VL.gCons (gFld A.C_Grammar "rules" (gLook 0)) VL.gNil))) (VL.envOf 7 [gD A al v rs, d, .int n, .int p]) = (match some (D.bl (decide (0 ≤ n))) with
          | some (.bl true) => (match (gCall fLen (VL.gCons (gFld A.C_Grammar "rules" (gLook 0)) VL.gNil)) (VL.envOf 7 [gD A al v rs, d, .int n, .int p]) with | some z => dLt (.int n) z | none => none)
          | some (.bl false) => some (.bl false)
          | _ => none) := rfl
      rw [this, hl, decide_eq_true h0]
      rfl
    · have : (gChain dLe dLt (gC (.int 0)) (gLook 2) (gCall fLen (VL.gCons (gFld A.C_Grammar "rules" (gLook 0)) VL.gNil))) (VL.envOf 7 [gD A al v rs, d, .int n, .int p]) = (match some (D.bl (decide (0 ≤ n))) with
          | some (.bl true) => (match (gCall fLen (VL.gCons (gFld A.C_Grammar "rules" (gLook 0)) VL.gNil)) (VL.envOf 7 [gD A al v rs, d, .int n, .int p]) with | some z => dLt (.int n) z | none => none)
          | some (.bl false) => some (.bl false)
          | _ => none) := rfl
      rw [this, decide_eq_false h0]
      rfl
  refine wp_seq (wp_if (b := !(decide (0 ≤ n) && decide (n < rs.length)) || decide (p < 0)) (e_or (e_not (e_B hch)) fun _ => e_B rfl) (fun hb => ?_) (fun hb => wp_next ?_))
  · refine wp_ret (d := .non) rfl ?_
    have : rew rs t n p = none := by
      unfold rew
      by_cases h : 0 ≤ n ∧ 0 ≤ p
      · rw [if_pos h]
        have hn : rs[n.toNat]? = none := by
          rw [List.getElem?_eq_none]
          simp [h.1] at hb
          omega
        rw [hn]
      · rw [if_neg h]
    rw [this]
    rfl
  · simp at hb
    obtain ⟨⟨h0, h1⟩, h2⟩ := hb
    obtain ⟨a, rfl⟩ := Int.eq_ofNat_of_zero_le h0
    obtain ⟨q, rfl⟩ := Int.eq_ofNat_of_zero_le h2
    have ha : a < rs.length := by omega
    have hr : rs[a]? = some rs[a] := List.getElem?_eq_getElem ha
    have hz1 := hz rs[a] (List.getElem_mem _)
    generalize rs[a] = r at hr hz1
    have hrew : rew rs t (a : Nat) (q : Nat) = if (t.drop q).take r.1.length = r.1 then some (t.take q ++ r.2 ++ t.drop (q + r.1.length)) else none := by
      unfold rew
      rw [if_pos ⟨by omega, by omega⟩, Int.toNat_natCast, Int.toNat_natCast, hr]
    refine wp_seq (wp_asg (d := rD r) (e_2 (hru2 _ rfl) rfl (ix_map rfl hr)) rfl ?_)
    refine wp_seq (wp_set (d := fD t) (by rcases hd with rfl | rfl <;> rfl) ?_)
    have hs : 1000000 ≤ sizeLine := by unfold sizeLine; omega
    refine wp_seq (wp_if (b := !decide ((t.drop q).take r.1.length = r.1)) (e_B (e_2 (e_cut (lo := some (q : Int)) (hi := some ((q : Int) + (r.1.length : Nat))) rfl rfl (e_part (e_2 rfl (e_lenF (f := r.1) rfl) rfl)) (cut_any2 t q r.1.length)) rfl (form_ne _ _))) (fun hb => ?_) (fun hb => wp_next ?_))
    · refine wp_ret (d := .non) rfl ?_
      rw [hrew, if_neg (by simpa using hb)]
      rfl
    · rw [hrew, if_pos (by simpa using hb)]
      have a1 : (t.take q).length ≤ t.length := by rw [List.length_take]; omega
      have a2 : (t.drop (q + r.1.length)).length ≤ t.length := by rw [List.length_drop]; omega
      exact wp_ret (d := fD (t.take q ++ r.2 ++ t.drop (q + r.1.length))) (e_2 (e_2 (e_cut (lo := none) (hi := some (q : Int)) rfl rfl rfl (cut_pre2 t q)) rfl (y := fD r.2) (add_form (by omega))) (e_cut (lo := some ((q + r.1.length : Nat) : Int)) (hi := none) rfl (e_part (e_2 rfl (e_lenF (f := r.1) rfl) rfl)) rfl (cut_suf2 t (q + r.1.length))) (add_form (by rw [List.length_append]; omega))) rfl
theorem rewritten_run (al : List Lt) (v : Int) (rs : List Rule) (t : Form) (n p : Int) (hz : ∀ r ∈ rs, t.length + r.1.length + r.2.length ≤ 100000) :
    m_rewritten A [gD A al v rs, fD t, .int n, .int p] = some (.val (optD (rew rs t n p))) := rewritten_runD A al v rs t n p (fD t) (.inl rfl) hz
end K40
end

section
namespace K40
open PySem PySem.Spec PyProof.Rows L2 VL
variable (A : Ad)
/-! pairs, the forms along them -/
abbrev Pr := Int × Int
abbrev pD (p : Pr) : D := .tup [.int p.1, .int p.2]
abbrev pL (p : Pr) : D := .lst [.int p.1, .int p.2]
def fol (rs : List Rule) : Form → List Pr → List Form
  | _, [] => []
  | f, p :: ps => match rew rs f p.1 p.2 with
    | some g => g :: fol rs g ps
    | none => []
def forms (rs : List Rule) (ps : List Pr) : List Form := [Sy.v 0] :: fol rs [Sy.v 0] ps
def Sz (rs : List Rule) : Prop := rs.length ≤ 100 ∧ ∀ r ∈ rs, r.1.length + r.2.length ≤ 100
theorem rew_len {rs : List Rule} {f g : Form} {n p : Int} (hz : Sz rs) (h : rew rs f n p = some g) : g.length ≤ f.length + 100 := by
  unfold rew at h
  split at h
  · split at h
    · rename_i r hr
      split at h
      · cases h
        have := hz.2 r (List.mem_of_getElem? hr)
        simp only [List.length_append, List.length_take, List.length_drop]
        omega
      · cases h
    · cases h
  · cases h
theorem fol_len (rs : List Rule) : ∀ (f : Form) (ps : List Pr), (fol rs f ps).length ≤ ps.length
  | _, [] => by simp [fol]
  | f, p :: ps => by
    unfold fol
    split
    · rename_i g _
      have := fol_len rs g ps
      simp; omega
    · simp
theorem ix_at {d : D} {ds : List D} {k : Nat} {x : D} (hd : d.items = some ds) (h : ds[k]? = some x) (i : Int) (hi : i = (k : Int)) : dIx d (.int i) = some x := by
  rw [hi]; exact d_ix hd h
theorem ix_neg {d : D} {ds : List D} {x : D} (hd : d.items = some (ds ++ [x])) : dIx d (.int (-1)) = some x := by
  have h : atI (ds ++ [x]) (-1) = some x := by
    unfold atI ixN
    rw [if_neg (by omega), if_pos (by simp; omega)]
    have : (-1 + ((ds ++ [x]).length : Int)).toNat = ds.length := by rw [List.length_append, List.length_singleton]; omega
    rw [this]
    simp
  unfold dIx
  cases d with
  | str _ => cases hd
  | _ => simp only [hd]; exact h
theorem rewritten_run2 (al : List Lt) (v : Int) (rs : List Rule) (t : Form) (n p : Int) (hz : Sz rs) (ht : t.length ≤ 50000) :
    m_rewritten A [gD A al v rs, fD t, .int n, .int p] = some (.val (optD (rew rs t n p))) := rewritten_run A al v rs t n p fun r hr => by have := hz.2 r hr; omega
theorem optD_is (o : Option Form) : dIs (optD o) .non = some (.bl o.isNone) := by cases o <;> rfl
theorem optD_isNot (o : Option Form) : dIsNot (optD o) .non = some (.bl o.isSome) := by cases o <;> rfl
def Row (d : D) (ps : List Pr) : Prop := ∃ e : Pr → D, (e = pD ∨ e = pL) ∧ d.iter = some (ps.map e) ∧ fLen [d] = some (.int (ps.length : Nat)) ∧ d.py.isSome = true
/-- behind a prefix of the pairs -/
def Pre (rs : List Rule) (done : List Pr) (pre : List Form) (f : Form) : Prop :=
  pre.length = done.length ∧ f.length ≤ 1 + 100 * done.length ∧ ∀ rest, forms rs (done ++ rest) = pre ++ f :: fol rs f rest
theorem pre_nil (rs : List Rule) : Pre rs [] [] [Sy.v 0] := ⟨rfl, by simp, fun rest => rfl⟩
theorem pre_snoc {rs : List Rule} {done : List Pr} {pre : List Form} {f g : Form} {x : Pr} (hz : Sz rs) (h : Pre rs done pre f) (hr : rew rs f x.1 x.2 = some g) : Pre rs (done ++ [x]) (pre ++ [f]) g := by
  obtain ⟨h1, h2, h3⟩ := h
  refine ⟨by simp [h1], ?_, fun rest => ?_⟩
  · have := rew_len hz hr
    simp; omega
  · rw [List.append_assoc, h3 ([x] ++ rest)]
    show pre ++ f :: fol rs f (x :: rest) = _
    unfold fol
    rw [hr]
    simp
    cases rest <;> rfl
theorem pre_stop {rs : List Rule} {done rest : List Pr} {pre : List Form} {f : Form} {x : Pr} (h : Pre rs done pre f) (hr : rew rs f x.1 x.2 = none) : forms rs (done ++ x :: rest) = pre ++ [f] := by
  rw [h.2.2 (x :: rest)]
  unfold fol
  rw [hr]
theorem pre_end {rs : List Rule} {done : List Pr} {pre : List Form} {f : Form} (h : Pre rs done pre f) : forms rs done = pre ++ [f] := by
  have := h.2.2 []
  rw [List.append_nil] at this
  rw [this]
  unfold fol
  rfl
theorem forms_until_run (al : List Lt) (v : Int) (rs : List Rule) (ps : List Pr) (d : D) (hz : Sz rs) (hp : ps.length ≤ 400) (hd : Row d ps) :
    m_forms_until A [gD A al v rs, d] = some (.val (.lst ((forms rs ps).map fD))) := by
  obtain ⟨e, he, hi, _, _⟩ := hd
  have hs : 1000000 ≤ sizeLine := by unfold sizeLine; omega
  refine m_val rfl ?_
  refine wp_seq (wp_asgN (ds := [[Sy.v 0]].map fD) rfl ?_)
  refine wp_seq (wp_for (e_items rfl hi) ?_)
  refine wpl_all (fun done c => ∃ (pre : List Form) (f : Form) (y3 y4 y5 : Option Cell), Pre rs done pre f ∧ c = [some (.fz (gD A al v rs)), some (.fz d), some (.own ((pre ++ [f]).map fD)), y3, y4, y5]) ⟨[], [Sy.v 0], none, none, none, pre_nil rs, rfl⟩ ?_ ?_
  · rintro done x rest c q ⟨pre, f, y3, y4, y5, hP, rfl⟩
    have hl : done.length < 400 := by
      have := congrArg List.length q
      simp at this
      omega
    have hR := rewritten_run2 A al v rs f x.1 x.2 hz (by have := hP.2.1; omega)
    refine ⟨[some (.fz (gD A al v rs)), some (.fz d), some (.own ((pre ++ [f]).map fD)), some (.fz (.int x.1)), some (.fz (.int x.2)), y5], by rcases he with rfl | rfl <;> rfl, ?_⟩
    refine wp_seq (wp_set (d := optD (rew rs f x.1 x.2)) (e_fn (ds := [gD A al v rs, fD f, .int x.1, .int x.2]) (e_cons rfl (e_cons (e_2 rfl rfl (ix_neg (ds := pre.map fD) ?_)) rfl)) hR) ?_)
    · show some ((pre ++ [f]).map fD) = _
      rw [List.map_append]; rfl
    refine wp_seq (wp_if (b := (rew rs f x.1 x.2).isNone) (e_B (e_2 rfl rfl (optD_is _))) (fun hb => ?_) (fun hb => wp_next ?_))
    · refine wp_break ?_
      have hn : rew rs f x.1 x.2 = none := by simpa using hb
      refine wp_ret (d := .lst ((forms rs ps).map fD)) ?_ rfl
      rw [q, pre_stop hP hn]
      rfl
    · obtain ⟨g, hg⟩ : ∃ g, rew rs f x.1 x.2 = some g := by
        cases h : rew rs f x.1 x.2 with
        | none => rw [h] at hb; cases hb
        | some g => exact ⟨g, rfl⟩
      rw [hg]
      refine wp_append (ds := (pre ++ [f]).map fD) (d := fD g) rfl rfl (by have := hP.1; simp; omega) ?_
      exact ⟨pre ++ [f], g, _, _, _, pre_snoc hz hP hg, by rw [List.map_append (l₁ := pre ++ [f])]; rfl⟩
  · rintro c ⟨pre, f, y3, y4, y5, hP, rfl⟩
    refine wp_ret (d := .lst ((forms rs ps).map fD)) ?_ rfl
    rw [pre_end hP]
    rfl
theorem forms_along_run (al : List Lt) (v : Int) (rs : List Rule) (ps : List Pr) (d : D) (hz : Sz rs) (hp : ps.length ≤ 400) (hd : Row d ps) :
    m_forms_along A [gD A al v rs, d] = some (if (forms rs ps).length ≤ ps.length then .exn A.C_BadRow ["index"] [.int ((forms rs ps).length - 1 : Int)] else .val (.tup ((forms rs ps).map fD))) := by
  have hU := forms_until_run A al v rs ps d hz hp hd
  obtain ⟨e, he, hi, hl, _⟩ := hd
  refine m_val rfl ?_
  refine wp_seq (wp_set (d := .lst ((forms rs ps).map fD)) (e_fn (ds := [gD A al v rs, d]) rfl hU) ?_)
  have hL : ∀ c : VL.Env, gLook 2 c = some (.lst ((forms rs ps).map fD)) → gCall fLen (VL.gCons (gLook 2) VL.gNil) c = some (.int ((forms rs ps).length : Nat)) := fun c h => by
    have := e_len h (.inl rfl)
    rw [List.length_map] at this
    exact this
  refine wp_seq (wp_if (b := decide ((forms rs ps).length ≤ ps.length)) (e_B (e_2 (hL _ rfl) (e_call (e_cons rfl rfl) hl) ?_)) (fun hb => ?_) (fun hb => wp_next ?_))
  · show some (D.bl (decide (((forms rs ps).length : Int) ≤ (ps.length : Nat)))) = _
    congr 2
    exact decide_eq_decide.mpr (by omega)
  · rw [if_pos (of_decide_eq_true hb)]
    exact wp_raise1 (y := .int ((forms rs ps).length - 1 : Int)) (e_cons (e_2 (hL _ rfl) rfl rfl) rfl) rfl
  · rw [if_neg (of_decide_eq_false hb)]
    exact wp_ret (d := .tup ((forms rs ps).map fD)) rfl rfl
theorem forms_last (rs : List Rule) (ps : List Pr) : ∃ pre f, forms rs ps = pre ++ [f] := by
  have h : forms rs ps ≠ [] := by unfold forms; simp
  exact ⟨(forms rs ps).dropLast, (forms rs ps).getLast h, (List.dropLast_concat_getLast h).symm⟩
theorem derived_run (al : List Lt) (v : Int) (rs : List Rule) (ps : List Pr) (d : D) (hz : Sz rs) (hp : ps.length ≤ 400) (hd : Row d ps) {pre : List Form} {f : Form} (hf : forms rs ps = pre ++ [f]) :
    m_derived A [gD A al v rs, d] = some (if (forms rs ps).length ≤ ps.length then .exn A.C_BadRow ["index"] [.int ((forms rs ps).length - 1 : Int)] else .val (fD f)) := by
  have hA := forms_along_run A al v rs ps d hz hp hd
  refine m_val rfl ?_
  have hx : gCallR (m_forms_along A) (VL.gCons (gVar 0) (VL.gCons (gVar 1) VL.gNil)) (frzAll (VL.envOf 2 [gD A al v rs, d])) = m_forms_along A [gD A al v rs, d] := rfl
  by_cases hb : (forms rs ps).length ≤ ps.length
  · rw [if_pos hb] at hA ⊢
    refine ⟨.ex A.C_BadRow ["index"] [.int ((forms rs ps).length - 1 : Int)], ?_, rfl⟩
    show gRetX _ _ = _
    unfold gRetX gX2
    rw [hx, hA]
  · rw [if_neg hb] at hA ⊢
    refine ⟨.ret (fD f), ?_, rfl⟩
    show gRetX _ _ = _
    unfold gRetX gX2
    rw [hx, hA]
    have h1 : dIx (.tup ((forms rs ps).map fD)) (.int (-1)) = some (fD f) := ix_neg (ds := pre.map fD) (by show some ((forms rs ps).map fD) = _; rw [hf, List.map_append]; rfl)
    have h2 : gNeg (gC (.int 1)) (frzAll (VL.envOf 2 [gD A al v rs, d])) = some (.int (-1)) := rfl
    simp only [h2, h1]
theorem is_derivation_run (al : List Lt) (v : Int) (rs : List Rule) (ps : List Pr) (d : D) (x : List Lt) (hx : x.length ≤ 100000) (hz : Sz rs) (hp : ps.length ≤ 400) (hd : Row d ps) {pre : List Form} {f : Form} (hf : forms rs ps = pre ++ [f]) :
    m_is_derivation A [gD A al v rs, alD x, d] = some (.val (.bl (decide ((forms rs ps).length = ps.length + 1) && decide (f = x.map Sy.l)))) := by
  have hU := forms_until_run A al v rs ps d hz hp hd
  obtain ⟨e, he, hi, hl, _⟩ := hd
  have hs : 1000000 ≤ sizeLine := by unfold sizeLine; omega
  refine m_val rfl ?_
  refine wp_seq (wp_set (d := .lst ((forms rs ps).map fD)) (e_fn (ds := [gD A al v rs, d]) rfl hU) ?_)
  have hL : ∀ c : VL.Env, gLook 3 c = some (.lst ((forms rs ps).map fD)) → gCall fLen (VL.gCons (gLook 3) VL.gNil) c = some (.int ((forms rs ps).length : Nat)) := fun c h => by
    have := e_len h (.inl rfl)
    rw [List.length_map] at this
    exact this
  refine wp_ret (d := .bl (decide ((forms rs ps).length = ps.length + 1) && decide (f = x.map Sy.l))) (e_bl (e_and (e_B (e_2 (hL _ rfl) (e_2 (e_call (e_cons rfl rfl) hl) rfl rfl) ?_)) fun _ => e_B (e_2 (x := fD f) (y := fD (x.map Sy.l)) (e_2 rfl rfl (ix_neg (ds := pre.map fD) ?_)) (e_call (e_cons (e_lst (xs := (x.map Sy.l).map Sy.D) (e_lc (e := Sy.D) (h := Sy.D) (xs := x.map Sy.l) (e_items rfl (iter_al x)) (by simp; omega) fun s _ => ⟨_, rfl, rfl⟩)) rfl) rfl) (form_eq _ _)))) rfl
  · rw [Emb.int.eq (by decide)]
    congr 2
    exact decide_eq_decide.mpr (by omega)
  · show some ((forms rs ps).map fD) = _
    rw [hf, List.map_append]; rfl
end K40
end

section
namespace K40
open PySem PySem.Spec PyProof.Rows L2 VL
variable (A : Ad)
theorem law_whole_run (i : Int) : m__law_whole A [.int i] = some (.val (.bl true)) := rfl
theorem sy_ne (s : Sy) : dNe s.D s.D = some (.bl false) := by have := Emb.sy.ne (by decide) s s; simpa using this
theorem side_alike_run (f : Form) (hf : f.length < 100000) : m__law_side_alike A [fD f, fD f] = some (.val (.bl true)) := by
  refine m_val rfl ?_
  have hl : ∀ (i : Nat) (c : VL.Env), gLook i c = some (fD f) → gCall fLen (VL.gCons (gLook i) VL.gNil) c = some (.int (f.length : Nat)) := fun i c h => e_lenF h
  refine wp_seq (wp_iff (e_or (a := false) (b := false) rfl fun _ => e_B (e_2 (hl 0 _ rfl) (hl 1 _ rfl) ?_)) (wp_next ?_))
  · have := Emb.int.ne (by decide) (f.length : Int) (f.length : Int)
    simpa using this
  refine wp_seq (wp_for (ds := rgD 0 f.length) ?_ ?_)
  · have := e_rgLen (c := VL.envOf 3 [fD f, fD f]) (g := gLook 1) (d := fD f) rfl (.inr (.inl rfl)) (by simpa using hf)
    rw [List.length_map] at this
    exact this
  refine wpl_rg (fun k c => ∃ y, c = [some (.fz (fD f)), some (.fz (fD f)), y]) ⟨none, rfl⟩ ?_ ?_
  · rintro k c hk ⟨y, rfl⟩
    refine ⟨_, rfl, ?_⟩
    have hx : dIx (fD f) (.int (k : Nat)) = some f[k].D := ix_map rfl (List.getElem?_eq_getElem hk)
    generalize f[k] = s at hx
    have h0 : ∀ (i : Nat), i < 2 → VL.g2 dIx (gLook i) (gLook 2) [some (.fz (fD f)), some (.fz (fD f)), some (.fz (.int (k : Nat)))] = some s.D := fun i hi => by
      have : i = 0 ∨ i = 1 := by omega
      rcases this with rfl | rfl <;> exact e_2 rfl rfl hx
    have hne : gB (VL.g2 dNe (VL.g2 dIx (gLook 0) (gLook 2)) (VL.g2 dIx (gLook 1) (gLook 2))) [some (.fz (fD f)), some (.fz (fD f)), some (.fz (.int (k : Nat)))] = some false := e_B (e_2 (h0 0 (by decide)) (h0 1 (by decide)) (sy_ne s))
    have hi : ∀ i, i < 2 → gIsi "str" (VL.g2 dIx (gLook i) (gLook 2)) [some (.fz (fD f)), some (.fz (fD f)), some (.fz (.int (k : Nat)))] = some (.bl (!isV s)) := fun i hi => by
      unfold gIsi
      rw [h0 i hi]
      cases s <;> rfl
    refine wp_if (b := !isV s) (e_tru (hi 1 (by decide)) rfl) (fun hb => ?_) (fun hb => ?_)
    · refine wp_iff (e_or (a := false) (b := false) (e_not (a := true) (e_tru (hi 0 (by decide)) ?_)) fun _ => hne) (wp_next ⟨_, rfl⟩)
      rw [hb]; rfl
    · have : ∃ i, s = .v i := by
        cases s with
        | v i => exact ⟨i, rfl⟩
        | l c => cases hb
      obtain ⟨i, rfl⟩ := this
      exact wp_iff (e_or (a := false) (b := false) (e_not (a := true) (e_tru (e_fn (ds := [.int i]) (e_cons (h0 0 (by decide)) rfl) (law_whole_run A i)) rfl)) fun _ => hne) (wp_next ⟨_, rfl⟩)
  · rintro c ⟨y, rfl⟩
    exact wp_ret (d := .bl true) rfl rfl
theorem forms_alike_run (fs : List Form) (hf : fs.length < 100000) (hs : ∀ f ∈ fs, f.length < 100000) : m__law_forms_alike A [.tup (fs.map fD), .lst (fs.map fD)] = some (.val (.bl true)) := by
  refine m_val rfl ?_
  have hl0 : ∀ (c : VL.Env), gLook 0 c = some (.tup (fs.map fD)) → gCall fLen (VL.gCons (gLook 0) VL.gNil) c = some (.int (fs.length : Nat)) := fun c h => by
    have := e_len h (.inr (.inl rfl)); rw [List.length_map] at this; exact this
  have hl1 : ∀ (c : VL.Env), gLook 1 c = some (.lst (fs.map fD)) → gCall fLen (VL.gCons (gLook 1) VL.gNil) c = some (.int (fs.length : Nat)) := fun c h => by
    have := e_len h (.inl rfl); rw [List.length_map] at this; exact this
  refine wp_seq (wp_iff (e_or (a := false) (b := false) rfl fun _ => e_B (e_2 (hl0 _ rfl) (hl1 _ rfl) ?_)) (wp_next ?_))
  · have := Emb.int.ne (by decide) (fs.length : Int) (fs.length : Int)
    simpa using this
  refine wp_seq (wp_for (ds := rgD 0 fs.length) ?_ ?_)
  · have := e_rgLen (c := VL.envOf 3 [.tup (fs.map fD), .lst (fs.map fD)]) (g := gLook 1) (d := .lst (fs.map fD)) rfl (.inl rfl) (by simpa using hf)
    rw [List.length_map] at this
    exact this
  refine wpl_rg (fun k c => ∃ y, c = [some (.fz (.tup (fs.map fD))), some (.fz (.lst (fs.map fD))), y]) ⟨none, rfl⟩ ?_ ?_
  · rintro k c hk ⟨y, rfl⟩
    refine ⟨_, rfl, ?_⟩
    have hx0 : dIx (.tup (fs.map fD)) (.int (k : Nat)) = some (fD fs[k]) := ix_map rfl (List.getElem?_eq_getElem hk)
    have hx1 : dIx (.lst (fs.map fD)) (.int (k : Nat)) = some (fD fs[k]) := ix_map rfl (List.getElem?_eq_getElem hk)
    exact wp_iff (e_not (a := true) (e_tru (e_fn (ds := [fD fs[k], fD fs[k]]) (e_cons (e_2 rfl rfl hx0) (e_cons (e_2 rfl rfl hx1) rfl)) (side_alike_run A fs[k] (hs _ (List.getElem_mem _)))) rfl)) (wp_next ⟨_, rfl⟩)
  · rintro c ⟨y, rfl⟩
    exact wp_ret (d := .bl true) rfl rfl
/-! the law's own rewriting -/
theorem law_rewrite_run (rs : List Rule) (t : Form) (n p : Int) (hz : Sz rs) (ht : t.length ≤ 50000) :
    m__law_rewrite A [.lst (rs.map rD), fD t, .int n, .int p] = some (.val (optD (rew rs t n p))) := by
  refine m_val rfl ?_
  have hl : ∀ c : VL.Env, gLook 0 c = some (.lst (rs.map rD)) → gCall fLen (VL.gCons (gLook 0) VL.gNil) c = some (.int (rs.length : Nat)) := fun c h => by
    have := e_len h (.inl rfl); rw [List.length_map] at this; exact this
  refine wp_seq (wp_if (b := decide (n < 0) || (decide ((rs.length : Int) ≤ n) || decide (p < 0))) (e_or (e_B rfl) fun _ => e_or (e_B (e_2 rfl (hl _ rfl) rfl)) fun _ => e_B rfl) (fun hb => ?_) (fun hb => wp_next ?_))
  · refine wp_ret (d := .non) rfl ?_
    have : rew rs t n p = none := by
      unfold rew
      by_cases h : 0 ≤ n ∧ 0 ≤ p
      · rw [if_pos h]
        have hn : rs[n.toNat]? = none := by
          rw [List.getElem?_eq_none]
          simp at hb
          omega
        rw [hn]
      · rw [if_neg h]
    rw [this]
    rfl
  · simp at hb
    obtain ⟨h0, h1, h2⟩ := hb
    obtain ⟨a, rfl⟩ := Int.eq_ofNat_of_zero_le h0
    obtain ⟨q, rfl⟩ := Int.eq_ofNat_of_zero_le h2
    have ha : a < rs.length := by omega
    have hr : rs[a]? = some rs[a] := List.getElem?_eq_getElem ha
    have hz1 := hz.2 rs[a] (List.getElem_mem _)
    generalize rs[a] = r at hr hz1
    have hrew : rew rs t (a : Nat) (q : Nat) = if (t.drop q).take r.1.length = r.1 then some (t.take q ++ r.2 ++ t.drop (q + r.1.length)) else none := by
      unfold rew
      rw [if_pos ⟨by omega, by omega⟩, Int.toNat_natCast, Int.toNat_natCast, hr]
    refine wp_seq (wp_set (d := rD r) (e_2 rfl rfl (ix_map rfl hr)) ?_)
    have hs : 1000000 ≤ sizeLine := by unfold sizeLine; omega
    have i0 : ∀ c : VL.Env, gLook 4 c = some (rD r) → VL.g2 dIx (gLook 4) (gC (.int 0)) c = some (fD r.1) := fun c h => e_2 h rfl (ix_map (e := fD) (xs := [r.1, r.2]) (k := 0) rfl rfl)
    have i1 : ∀ c : VL.Env, gLook 4 c = some (rD r) → VL.g2 dIx (gLook 4) (gC (.int 1)) c = some (fD r.2) := fun c h => e_2 h rfl (ix_map (e := fD) (xs := [r.1, r.2]) (k := 1) rfl rfl)
    refine wp_seq (wp_if (b := !decide ((t.drop q).take r.1.length = r.1)) (e_B (e_2 (e_cut (lo := some (q : Int)) (hi := some ((q : Int) + (r.1.length : Nat))) rfl rfl (e_part (e_2 rfl (e_lenF (f := r.1) (i0 _ rfl)) rfl)) (cut_any2 t q r.1.length)) (i0 _ rfl) (form_ne _ _))) (fun hb => ?_) (fun hb => wp_next ?_))
    · refine wp_ret (d := .non) rfl ?_
      rw [hrew, if_neg (by simpa using hb)]
      rfl
    · rw [hrew, if_pos (by simpa using hb)]
      have a1 : (t.take q).length ≤ t.length := by rw [List.length_take]; omega
      have a2 : (t.drop (q + r.1.length)).length ≤ t.length := by rw [List.length_drop]; omega
      exact wp_ret (d := fD (t.take q ++ r.2 ++ t.drop (q + r.1.length))) (e_2 (e_2 (e_cut (lo := none) (hi := some (q : Int)) rfl rfl rfl (cut_pre2 t q)) (i1 _ rfl) (y := fD r.2) (add_form (by omega))) (e_cut (lo := some ((q + r.1.length : Nat) : Int)) (hi := none) rfl (e_part (e_2 rfl (e_lenF (f := r.1) (i0 _ rfl)) rfl)) rfl (cut_suf2 t (q + r.1.length))) (add_form (by rw [List.length_append]; omega))) rfl
theorem follow_run (rs : List Rule) (ps : List Pr) (hz : Sz rs) (hp : ps.length ≤ 400) :
    m__law_follow A [.lst (rs.map rD), .lst (ps.map pD)] = some (.val (.lst ((forms rs ps).map fD))) := by
  have hs : 1000000 ≤ sizeLine := by unfold sizeLine; omega
  refine m_val rfl ?_
  refine wp_seq (wp_asgN (ds := [[Sy.v 0]].map fD) rfl ?_)
  refine wp_seq (wp_for (ds := ps.map pD) rfl ?_)
  refine wpl_all (fun done c => ∃ (pre : List Form) (f : Form) (y3 y4 : Option Cell), Pre rs done pre f ∧ c = [some (.fz (.lst (rs.map rD))), some (.fz (.lst (ps.map pD))), some (.own ((pre ++ [f]).map fD)), y3, y4]) ⟨[], [Sy.v 0], none, none, pre_nil rs, rfl⟩ ?_ ?_
  · rintro done x rest c q ⟨pre, f, y3, y4, hP, rfl⟩
    have hl : done.length < 400 := by
      have := congrArg List.length q
      simp at this
      omega
    have hR := law_rewrite_run A rs f x.1 x.2 hz (by have := hP.2.1; omega)
    refine ⟨_, rfl, ?_⟩
    refine wp_seq (wp_set (d := optD (rew rs f x.1 x.2)) (e_fn (ds := [.lst (rs.map rD), fD f, .int x.1, .int x.2]) (e_cons rfl (e_cons (e_2 rfl (e_2 (e_len (ds := (pre ++ [f]).map fD) rfl (.inl rfl)) rfl rfl) (ix_at (ds := (pre ++ [f]).map fD) (k := pre.length) rfl ?_ _ ?_)) (e_cons (e_2 rfl rfl (ix_map (e := D.int) (xs := [x.1, x.2]) (k := 0) rfl rfl)) (e_cons (e_2 rfl rfl (ix_map (e := D.int) (xs := [x.1, x.2]) (k := 1) rfl rfl)) rfl)))) hR) ?_)
    · simp
    · simp
    refine wp_seq (wp_if (b := (rew rs f x.1 x.2).isNone) (e_B (e_2 rfl rfl (optD_is _))) (fun hb => ?_) (fun hb => wp_next ?_))
    · refine wp_break ?_
      have hn : rew rs f x.1 x.2 = none := by simpa using hb
      refine wp_ret (d := .lst ((forms rs ps).map fD)) ?_ rfl
      rw [q, pre_stop hP hn]
      rfl
    · obtain ⟨g, hg⟩ : ∃ g, rew rs f x.1 x.2 = some g := by
        cases h : rew rs f x.1 x.2 with
        | none => rw [h] at hb; cases hb
        | some g => exact ⟨g, rfl⟩
      rw [hg]
      refine wp_append (ds := (pre ++ [f]).map fD) (d := fD g) rfl rfl (by have := hP.1; simp; omega) ?_
      exact ⟨pre ++ [f], g, _, _, pre_snoc hz hP hg, by rw [List.map_append (l₁ := pre ++ [f])]; rfl⟩
  · rintro c ⟨pre, f, y3, y4, hP, rfl⟩
    refine wp_ret (d := .lst ((forms rs ps).map fD)) ?_ rfl
    rw [pre_end hP]
    rfl
/-! what is handed -/
def handD (s : Nat) (ps : List Pr) : D := if s = 0 then .lst (ps.map pL) else if s = 1 then .lst (ps.map pD) else .tup (ps.map pD)
theorem handed_run (s : Nat) (ps : List Pr) (hp : ps.length ≤ 400) : m__law_handed A [.lst (ps.map pD), .int (s : Nat)] = some (.val (handD s ps)) := by
  have hs : 1000000 ≤ sizeLine := by unfold sizeLine; omega
  have j0 : ∀ (x : Pr) (c : VL.Env), gLook 2 c = some (pD x) → VL.g2 dIx (gLook 2) (gC (.int 0)) c = some (.int x.1) := fun x c h => e_2 h rfl (ix_map (e := D.int) (xs := [x.1, x.2]) (k := 0) rfl rfl)
  have j1 : ∀ (x : Pr) (c : VL.Env), gLook 2 c = some (pD x) → VL.g2 dIx (gLook 2) (gC (.int 1)) c = some (.int x.2) := fun x c h => e_2 h rfl (ix_map (e := D.int) (xs := [x.1, x.2]) (k := 1) rfl rfl)
  have eqS : ∀ j : Int, dEq (.int (s : Nat)) (.int j) = some (.bl (decide ((s : Int) = j))) := fun j => Emb.int.eq (by decide) _ _
  refine m_val rfl ?_
  refine wp_seq (wp_if (b := decide ((s : Int) = 0)) (e_B (e_2 rfl rfl (eqS 0))) (fun hb => ?_) (fun hb => wp_next ?_))
  · have : s = 0 := by simpa using hb
    subst this
    exact wp_ret (d := .lst (ps.map pL)) (e_lst (e_lc (e := pD) (h := pL) (xs := ps) rfl (by omega) fun x _ => ⟨_, rfl, e_lst (e_ln (e_cons (j0 x _ rfl) (e_cons (j1 x _ rfl) rfl)) (by show 2 ≤ sizeLine; omega))⟩)) rfl
  have hT : ∀ (x : Pr) (c : VL.Env), gLook 2 c = some (pD x) → VL.gTup (VL.gCons (VL.g2 dIx (gLook 2) (gC (.int 0))) (VL.gCons (VL.g2 dIx (gLook 2) (gC (.int 1))) VL.gNil)) c = some (pD x) := fun x c h => e_tup (e_cons (j0 x c h) (e_cons (j1 x c h) rfl)) (by show 2 ≤ sizeLine; omega)
  have n0 : ¬ s = 0 := by simpa using hb
  refine wp_seq (wp_if (b := decide ((s : Int) = 1)) (e_B (e_2 rfl rfl (eqS 1))) (fun hb => ?_) (fun hb => wp_next ?_))
  · have : s = 1 := by simp at hb; omega
    subst this
    exact wp_ret (d := .lst (ps.map pD)) (e_lst (e_lc (e := pD) (h := pD) (xs := ps) rfl (by omega) fun x _ => ⟨_, rfl, hT x _ rfl⟩)) rfl
  · have n1 : ¬ s = 1 := by simp at hb; omega
    refine wp_ret (d := .tup (ps.map pD)) (e_call (ds := [.lst (ps.map pD)]) (e_cons (e_lst (e_lc (e := pD) (h := pD) (xs := ps) rfl (by omega) fun x _ => ⟨_, rfl, hT x _ rfl⟩)) rfl) rfl) ?_
    unfold handD
    rw [if_neg n0, if_neg n1]
    rfl
def Emb.pairL {α β : Type} [DecidableEq α] [DecidableEq β] {e : α → D} {f : β → D} {n m : Nat} (h : Emb e n) (h' : Emb f m) : Emb (fun x : α × β => .lst [e x.1, f x.2]) (max n m + 1) where
  p x := .list [h.p x.1, h'.p x.2]
  hp x := by simp only [D.py, D.pyL, h.hp, h'.hp]; rfl
  ev x y := by
    simp only [PyData.eqv, PyData.eqvAll, Bool.and_true]
    rw [h.ev, h'.ev, ← Bool.decide_and]
    exact decide_eq_decide.mpr ⟨fun q => Prod.ext q.1 q.2, fun q => by rw [q]; exact ⟨rfl, rfl⟩⟩
  ly x := by simp only [PyData.canLay0, PyData.canLayAll0, h.ly, h'.ly]; rfl
  dp x := by
    have h1 := h.dp x.1
    have h2 := h'.dp x.2
    simp only [PyData.depth, PyData.depthAll]
    omega
theorem hand_eq (s : Nat) (ps : List Pr) : dEq (handD s ps) (handD s ps) = some (.bl true) := by
  unfold handD
  split
  · have := (Emb.lst (Emb.pairL Emb.int Emb.int)).eq (by decide) ps ps
    simpa using this
  · split
    · have := (Emb.lst (Emb.pair Emb.int Emb.int)).eq (by decide) ps ps
      simpa using this
    · have := (Emb.tup (Emb.pair Emb.int Emb.int)).eq (by decide) ps ps
      simpa using this
theorem row_lst (e : Pr → D) (he : e = pD ∨ e = pL) (ps : List Pr) : Row (.lst (ps.map e)) ps := by
  refine ⟨e, he, rfl, ?_, ?_⟩
  · show some (D.int ((ps.map e).length : Nat)) = _
    rw [List.length_map]
  · rcases he with rfl | rfl
    · rw [(Emb.lst (Emb.pair Emb.int Emb.int)).hp ps]; rfl
    · rw [(Emb.lst (Emb.pairL Emb.int Emb.int)).hp ps]; rfl
theorem row_hand (s : Nat) (ps : List Pr) : Row (handD s ps) ps := by
  unfold handD
  split
  · exact row_lst pL (.inr rfl) ps
  · split
    · exact row_lst pD (.inl rfl) ps
    · refine ⟨pD, .inl rfl, rfl, ?_, ?_⟩
      · show some (D.int ((ps.map pD).length : Nat)) = _
        rw [List.length_map]
      · rw [(Emb.tup (Emb.pair Emb.int Emb.int)).hp ps]; rfl
end K40
end

section
namespace K40
open PySem PySem.Spec PyProof.Rows L2 VL
variable (A : Ad)
def askD (w : Nat) (rs : List Rule) (ps : List Pr) (last : Form) : D :=
  if (forms rs ps).length ≤ ps.length then .tup [.str "row", .int ((forms rs ps).length - 1 : Int)]
  else .tup [.str "told", if w = 0 then .tup ((forms rs ps).map fD) else fD last]
theorem asked_run (al : List Lt) (v : Int) (rs : List Rule) (ps : List Pr) (d : D) (w : Nat) (hw : w < 2) (hz : Sz rs) (hp : ps.length ≤ 400) (hd : Row d ps) {pre : List Form} {f : Form} (hf : forms rs ps = pre ++ [f]) :
    m__law_asked A [.int (w : Nat), gD A al v rs, d] = some (.val (askD w rs ps f)) := by
  have hA := forms_along_run A al v rs ps d hz hp hd
  have hD := derived_run A al v rs ps d hz hp hd hf
  have hs : 1000000 ≤ sizeLine := by unfold sizeLine; omega
  let env : VL.Env := [some (.fz (.int (w : Nat))), some (.fz (gD A al v rs)), some (.fz d), none, none]
  have hfa : gCallR (m_forms_along A) (VL.gCons (gVar 1) (VL.gCons (gVar 2) VL.gNil)) (frzAll env) = m_forms_along A [gD A al v rs, d] := rfl
  have hde : gCallR (m_derived A) (VL.gCons (gVar 1) (VL.gCons (gVar 2) VL.gNil)) (frzAll env) = m_derived A [gD A al v rs, d] := rfl
  have hp0 : gB (g2 dEq (gLook 0) (gC (.int 0))) env = some (decide ((w : Int) = 0)) := e_B (e_2 rfl rfl (Emb.int.eq (by decide) (w : Int) 0))
  refine m_val rfl ?_
  unfold askD
  by_cases hb : (forms rs ps).length ≤ ps.length
  · rw [if_pos hb] at hA hD ⊢
    refine wp_tryG_ex (c1 := frzAll env) (C := A.C_BadRow) (ns := ["index"]) (es := [.int ((forms rs ps).length - 1 : Int)]) ?_ rfl ?_
    · by_cases h0 : w = 0
      · subst h0
        exact y_seqX (y_ift hp0 (y_retX (x_tupX (x_consR (x_val rfl) (x_consX (hfa.trans hA))))))
      · have : decide ((w : Int) = 0) = false := decide_eq_false (by omega)
        rw [this] at hp0
        exact y_seqN (y_iff hp0 rfl) (y_retX (x_tupX (x_consR (x_val rfl) (x_consX (hde.trans hD)))))
    · refine wp_seq (wp_set (d := .lst [.bl false, .bl false, .bl false, .bl false]) (e_lst (e_ln (e_cons (e_isX rfl) (e_cons (e_isX rfl) (e_cons (e_isX rfl) (e_cons (e_isX rfl) rfl)))) (by show 4 ≤ sizeLine; omega))) ?_)
      refine wp_seq (wp_iff (e_or (a := false) (b := false) (e_not (a := true) (e_tru (e_isX rfl) rfl)) fun _ => e_or (a := false) (b := false) (e_not (a := true) (e_tru (e_isX rfl) rfl)) fun _ => e_B (e_2 (e_2 (z := .int 0) rfl rfl rfl) rfl rfl)) (wp_next ?_))
      exact wp_ret (d := .tup [.str "row", .int ((forms rs ps).length - 1 : Int)]) (e_tup (e_cons rfl (e_cons (e_xf rfl rfl) rfl)) (by show 2 ≤ sizeLine; omega)) ⟨_, rfl, rfl⟩
  · rw [if_neg hb] at hA hD ⊢
    refine wp_tryG_ret (d := .tup [.str "told", if w = 0 then .tup ((forms rs ps).map fD) else fD f]) ?_ rfl
    by_cases h0 : w = 0
    · subst h0
      exact y_seqR (y_ift hp0 (y_retV (x_tup (x_cons (x_val rfl) (x_cons (hfa.trans hA) x_nil)) (by show 2 ≤ sizeLine; omega))))
    · have : decide ((w : Int) = 0) = false := decide_eq_false (by omega)
      rw [this] at hp0
      rw [if_neg h0]
      exact y_seqN (y_iff hp0 rfl) (y_retV (x_tup (x_cons (x_val rfl) (x_cons (hde.trans hD) x_nil)) (by show 2 ≤ sizeLine; omega)))
theorem ask_imm (w : Nat) (rs : List Rule) (ps : List Pr) (f : Form) : (askD w rs ps f).imm = true := by
  unfold askD
  split
  · rfl
  · show (D.imm (.str "told") && (D.imm (if w = 0 then .tup ((forms rs ps).map fD) else fD f) && true)) = true
    have : D.imm (if w = 0 then .tup ((forms rs ps).map fD) else fD f) = true := by
      split
      · exact imm_forms _
      · exact imm_form _
    rw [this]; rfl
theorem forms_short {rs : List Rule} {ps : List Pr} (hz : Sz rs) (hp : ps.length ≤ 400) : (forms rs ps).length ≤ 401 ∧ ∀ f ∈ forms rs ps, f.length ≤ 40001 := by
  have hfl : ∀ (ps : List Pr) (f : Form), ∀ g ∈ fol rs f ps, g.length ≤ f.length + 100 * ps.length := by
    intro ps
    induction ps with
    | nil => intro f g hg; simp [fol] at hg
    | cons p ps ih =>
      intro f g hg
      unfold fol at hg
      split at hg
      · rename_i g' hg'
        have h1 := rew_len hz hg'
        rcases List.mem_cons.mp hg with h | h
        · subst h; simp; omega
        · have := ih g' g h
          simp; omega
      · cases hg
  refine ⟨?_, fun f hf => ?_⟩
  · have := fol_len rs [.v 0] ps
    unfold forms
    simp; omega
  · unfold forms at hf
    rcases List.mem_cons.mp hf with h | h
    · subst h; simp
    · have := hfl ps _ f h
      simp at this
      omega
theorem row_told_run (al : List Lt) (v : Int) (rs : List Rule) (ps : List Pr) (s : Nat) (hz : Sz rs) (hp : ps.length ≤ 400) :
    m__law_row_told A [gD A al v rs, .lst (rs.map rD), .lst (ps.map pD), .int (s : Nat)] = some (.val (.bl true)) := by
  obtain ⟨pre, f, hf⟩ := forms_last rs ps
  have hF := follow_run A rs ps hz hp
  have hH := handed_run A s ps hp
  obtain ⟨hsh1, hsh2⟩ := forms_short hz hp
  have hfl : f.length ≤ 40001 := hsh2 f (by rw [hf]; simp)
  refine m_val rfl ?_
  refine wp_seq (wp_set (d := .lst ((forms rs ps).map fD)) (e_fn (ds := [.lst (rs.map rD), .lst (ps.map pD)]) rfl hF) ?_)
  refine wp_seq (wp_set (d := handD s ps) (e_fn (ds := [.lst (ps.map pD), .int (s : Nat)]) rfl hH) ?_)
  refine wp_seq (wp_for (ds := rgD 0 2) (e_rg1 (n := 2) rfl (by decide) (by decide)) ?_)
  refine wpl_rg (fun k c => ∃ y6 y7, c = [some (.fz (gD A al v rs)), some (.fz (.lst (rs.map rD))), some (.fz (.lst (ps.map pD))), some (.fz (.int (s : Nat))), some (.fz (.lst ((forms rs ps).map fD))), some (.fz (handD s ps)), y6, y7]) ⟨none, none, rfl⟩ ?_ ?_
  · rintro k c hk ⟨y6, y7, rfl⟩
    refine ⟨_, rfl, ?_⟩
    have hA := asked_run A al v rs ps (handD s ps) k hk hz hp (row_hand s ps) hf
    refine wp_seq (wp_set (d := askD k rs ps f) (e_imm (e_fn (ds := [.int (k : Nat), gD A al v rs, handD s ps]) rfl hA) (ask_imm k rs ps f)) ?_)
    generalize hask : askD k rs ps f = ask
    have lf : ∀ c : VL.Env, gLook 4 c = some (.lst ((forms rs ps).map fD)) → gCall fLen (VL.gCons (gLook 4) VL.gNil) c = some (.int ((forms rs ps).length : Nat)) := fun c h => by
      have := e_len h (.inl rfl); rw [List.length_map] at this; exact this
    have lp : ∀ c : VL.Env, gLook 2 c = some (.lst (ps.map pD)) → gCall fLen (VL.gCons (gLook 2) VL.gNil) c = some (.int (ps.length : Nat)) := fun c h => by
      have := e_len h (.inl rfl); rw [List.length_map] at this; exact this
    refine wp_if (b := decide ((forms rs ps).length ≤ ps.length)) (e_B (e_2 (lf _ rfl) (lp _ rfl) ?_)) (fun hb => ?_) (fun hb => ?_)
    · show some (D.bl (decide (((forms rs ps).length : Int) ≤ (ps.length : Nat)))) = _
      congr 2
      exact decide_eq_decide.mpr (by omega)
    · have hb' := of_decide_eq_true hb
      have ha : ask = .tup [.str "row", .int ((forms rs ps).length - 1 : Int)] := by rw [← hask]; unfold askD; rw [if_pos hb']
      subst ha
      have i1 : VL.g2 dIx (gLook 7) (gC (.int 1)) [some (.fz (gD A al v rs)), some (.fz (.lst (rs.map rD))), some (.fz (.lst (ps.map pD))), some (.fz (.int (s : Nat))), some (.fz (.lst ((forms rs ps).map fD))), some (.fz (handD s ps)), some (.fz (.int (k : Nat))), some (.fz (.tup [.str "row", .int ((forms rs ps).length - 1 : Int)]))] = some (.int ((forms rs ps).length - 1 : Int)) := rfl
      refine wp_iff (e_or (a := false) (b := false) (e_B rfl) fun _ => e_or (a := false) (b := false) (e_not (a := true) (e_tru (e_fn (ds := [.int ((forms rs ps).length - 1 : Int)]) (e_cons i1 rfl) (law_whole_run A _)) rfl)) fun _ => e_B (e_2 i1 (e_2 (lf _ rfl) rfl rfl) ?_)) (wp_next ⟨_, _, rfl⟩)
      have := Emb.int.ne (by decide) ((forms rs ps).length - 1 : Int) ((forms rs ps).length - 1 : Int)
      simpa using this
    · have hb' := of_decide_eq_false hb
      have ha : ask = .tup [.str "told", if k = 0 then .tup ((forms rs ps).map fD) else fD f] := by rw [← hask]; unfold askD; rw [if_neg hb']
      subst ha
      refine wp_iff (e_B rfl) ?_
      have hk2 : k = 0 ∨ k = 1 := by omega
      rcases hk2 with rfl | rfl
      · have hal := forms_alike_run A (forms rs ps) (by omega) (fun f hf => by have := hsh2 f hf; omega)
        refine wp_iff (e_and (a := true) (b := false) (e_B rfl) fun _ => e_not (a := true) (e_tru (e_fn (ds := [.tup ((forms rs ps).map fD), .lst ((forms rs ps).map fD)]) rfl hal) rfl)) ?_
        exact wp_iff (by rfl) (wp_next ⟨_, _, rfl⟩)
      · have hal := side_alike_run A f (by omega)
        refine wp_iff (by rfl) ?_
        refine wp_iff (e_and (a := true) (b := false) (e_B rfl) fun _ => e_not (a := true) (e_tru (e_fn (ds := [fD f, fD f]) (e_cons rfl (e_cons (e_2 rfl (e_2 (lf _ rfl) rfl rfl) (ix_at (ds := (forms rs ps).map fD) (k := pre.length) rfl ?_ _ ?_)) rfl)) hal) rfl)) (wp_next ⟨_, _, rfl⟩)
        · rw [hf]; simp
        · rw [hf]; simp
  · rintro c ⟨y6, y7, rfl⟩
    exact wp_ret (d := .bl true) (e_2 rfl (e_fn (ds := [.lst (ps.map pD), .int (s : Nat)]) rfl hH) (hand_eq s ps)) rfl
end K40
end

section
namespace K40
open PySem PySem.Spec PyProof.Rows L2 VL
variable (A : Ad)
/-- small variables -/
def okV (f : Form) : Prop := ∀ s ∈ f, ∀ i, s = Sy.v i → 0 ≤ i ∧ i < 16
def OkV (rs : List Rule) : Prop := ∀ r ∈ rs, okV r.1 ∧ okV r.2
theorem rew_okV {rs : List Rule} (h : OkV rs) {f g : Form} {n p : Int} (hf : okV f) (hr : rew rs f n p = some g) : okV g := by
  unfold rew at hr
  split at hr
  · split at hr
    · rename_i r hg
      split at hr
      · cases hr
        intro s hs
        rcases List.mem_append.mp hs with hs | hs
        · rcases List.mem_append.mp hs with hs | hs
          · exact hf s (List.mem_of_mem_take hs)
          · exact (h r (List.mem_of_getElem? hg)).2 s hs
        · exact hf s (List.mem_of_mem_drop hs)
      · cases hr
    · cases hr
  · cases hr
theorem fol_okV {rs : List Rule} (h : OkV rs) : ∀ (ps : List Pr) (f : Form), okV f → ∀ g ∈ fol rs f ps, okV g
  | [], f, _, g, hg => by simp [fol] at hg
  | p :: ps, f, hf, g, hg => by
    unfold fol at hg
    split at hg
    · rename_i g' hg'
      have h1 := rew_okV h hf hg'
      rcases List.mem_cons.mp hg with q | q
      · rw [q]; exact h1
      · exact fol_okV h ps g' h1 g q
    · cases hg
theorem forms_okV {rs : List Rule} (h : OkV rs) (ps : List Pr) : ∀ g ∈ forms rs ps, okV g := by
  intro g hg
  have h0 : okV [Sy.v 0] := by
    intro s hs i hi
    simp at hs
    rw [hs] at hi; cases hi; decide
  unfold forms at hg
  rcases List.mem_cons.mp hg with q | q
  · rw [q]; exact h0
  · exact fol_okV h ps _ h0 g q
/-- a form, shown -/
theorem e_show {j : Nat} {c : VL.Env} {ge : GE} {f : Form} (hf : okV f) (hl : f.length ≤ 50000) (h : ge c = some (fD f)) (hj : ∀ d, ∃ c1, fName j d (wipeC c [j]) = some c1 ∧ gLook j c1 = some d) :
    ∃ x : List Lt, g2 dJoin (gC (.str "")) (gL (gLc (gIt ge) (fName j) gYes (gCall fStr (VL.gCons (gLook j) VL.gNil)) [j])) c = some (alD x) ∧ x.length ≤ 2 * f.length := by
  have hs : 1000000 ≤ sizeLine := by unfold sizeLine; omega
  obtain ⟨ys, h1, h2, h3⟩ := e_lcE (c := c) (ge := gCall fStr (VL.gCons (gLook j) VL.gNil)) (e := Sy.D) (h := alD) (S := fun x : List Lt => x.length ≤ 2) (vs := [j]) (f := fName j) (xs := f) (gi := gIt ge) (e_items h rfl) (by omega) (fun s hm => by
    obtain ⟨c1, q1, q2⟩ := hj s.D
    have : ∃ y : List Lt, fStr [s.D] = some (alD y) ∧ y.length ≤ 2 := by
      cases s with
      | v i => exact str_small i (hf _ hm i rfl).1 (hf _ hm i rfl).2
      | l c => exact ⟨[c], rfl, by simp⟩
    obtain ⟨y, e1, e2⟩ := this
    exact ⟨c1, y, q1, e_call (e_cons q2 rfl) e1, e2⟩)
  have hfl := flat_len ys 2 h3
  rw [h2] at hfl
  exact ⟨ys.flatten, e_2 (x := .str "") rfl (e_lst h1) (dJoin_al ys (by omega)), hfl⟩
theorem bl_ne (b : Bool) : dNe (.bl b) (.bl b) = some (.bl false) := by cases b <;> rfl
theorem texts_told_run (al : List Lt) (v : Int) (rs : List Rule) (ps : List Pr) (W wpre : List Form) (g : Form) (c0 : Lt) (s : Nat) (hz : Sz rs) (ho : OkV rs) (hp : ps.length ≤ 400) (hW : W = wpre ++ [g]) (hg : okV g) (hgl : g.length ≤ 40001) :
    m__law_texts_told A [gD A al v rs, .lst (rs.map rD), .lst (ps.map pD), .lst (W.map fD), alD [c0], .int (s : Nat)] = some (.val (.bl true)) := by
  obtain ⟨pre, f, hf⟩ := forms_last rs ps
  have hs : 1000000 ≤ sizeLine := by unfold sizeLine; omega
  have hF := follow_run A rs ps hz hp
  have hH := handed_run A s ps hp
  obtain ⟨hsh1, hsh2⟩ := forms_short hz hp
  have hfm : f ∈ forms rs ps := by rw [hf]; simp
  have hfl : f.length ≤ 40001 := hsh2 f hfm
  have hfo := forms_okV ho ps f hfm
  have hlen := fol_len rs [.v 0] ps
  have hlen2 : (forms rs ps).length ≤ ps.length + 1 := by unfold forms; simp; omega
  refine m_val rfl ?_
  refine wp_seq (wp_set (d := .lst ((forms rs ps).map fD)) (e_fn (ds := [.lst (rs.map rD), .lst (ps.map pD)]) rfl hF) ?_)
  have lf : ∀ c : VL.Env, gLook 6 c = some (.lst ((forms rs ps).map fD)) → gCall fLen (VL.gCons (gLook 6) VL.gNil) c = some (.int ((forms rs ps).length : Nat)) := fun c h => by
    have := e_len h (.inl rfl); rw [List.length_map] at this; exact this
  have lw : ∀ c : VL.Env, gLook 3 c = some (.lst (W.map fD)) → gCall fLen (VL.gCons (gLook 3) VL.gNil) c = some (.int (W.length : Nat)) := fun c h => by
    have := e_len h (.inl rfl); rw [List.length_map] at this; exact this
  have lp : ∀ c : VL.Env, gLook 2 c = some (.lst (ps.map pD)) → gCall fLen (VL.gCons (gLook 2) VL.gNil) c = some (.int (ps.length : Nat)) := fun c h => by
    have := e_len h (.inl rfl); rw [List.length_map] at this; exact this
  have xf : ∀ c : VL.Env, gLook 6 c = some (.lst ((forms rs ps).map fD)) → VL.g2 dIx (gLook 6) (VL.g2 dSub (gCall fLen (VL.gCons (gLook 6) VL.gNil)) (gC (.int 1))) c = some (fD f) := fun c h => by
    refine e_2 h (e_2 (lf c h) rfl rfl) (ix_at (ds := (forms rs ps).map fD) (k := pre.length) rfl ?_ _ ?_)
    · rw [hf]; simp
    · rw [hf]; simp
  have xw : ∀ c : VL.Env, gLook 3 c = some (.lst (W.map fD)) → VL.g2 dIx (gLook 3) (VL.g2 dSub (gCall fLen (VL.gCons (gLook 3) VL.gNil)) (gC (.int 1))) c = some (fD g) := fun c h => by
    refine e_2 h (e_2 (lw c h) rfl rfl) (ix_at (ds := W.map fD) (k := wpre.length) rfl ?_ _ ?_)
    · rw [hW]; simp
    · rw [hW]; simp
  obtain ⟨last, e1, e2⟩ := e_show (j := 13) (c := [some (.fz (gD A al v rs)), some (.fz (.lst (rs.map rD))), some (.fz (.lst (ps.map pD))), some (.fz (.lst (W.map fD))), some (.fz (alD [c0])), some (.fz (.int (s : Nat))), some (.fz (.lst ((forms rs ps).map fD))), none, none, none, none, none, none, none, none]) (f := f) hfo (by omega) (xf _ rfl) (fun d => ⟨_, rfl, rfl⟩)
  refine wp_seq (wp_set (d := alD last) e1 ?_)
  obtain ⟨goal, e3, e4⟩ := e_show (j := 13) (c := [some (.fz (gD A al v rs)), some (.fz (.lst (rs.map rD))), some (.fz (.lst (ps.map pD))), some (.fz (.lst (W.map fD))), some (.fz (alD [c0])), some (.fz (.int (s : Nat))), some (.fz (.lst ((forms rs ps).map fD))), some (.fz (alD last)), none, none, none, none, none, none, none]) (f := g) hg (by omega) (xw _ rfl) (fun d => ⟨_, rfl, rfl⟩)
  refine wp_seq (wp_set (d := alD goal) e3 ?_)
  refine wp_seq (wp_set (d := handD s ps) (e_fn (ds := [.lst (ps.map pD), .int (s : Nat)]) rfl hH) ?_)
  obtain ⟨x1, c1, l1⟩ := cut_al_ex (x := last) (some 1) none (by omega)
  obtain ⟨x2, c2, l2⟩ := cut_al_ex (x := last) none (some ((last.length : Int) - 1)) (by omega)
  obtain ⟨x3, c3, l3⟩ := cut_al_ex (x := goal) (some 1) none (by omega)
  let xs : List (List Lt) := [last, goal, last ++ [c0], [c0] ++ last, x1, x2, [], [48], [81] ++ x3]
  have hxs : ∀ x ∈ xs, x.length ≤ 100000 := by
    intro x hx
    simp [xs] at hx
    rcases hx with rfl | rfl | rfl | rfl | rfl | rfl | rfl | rfl | rfl <;> first | omega | (simp; omega) | simp
  refine wp_seq (wp_for (ds := xs.map alD) (e_items (d := .lst (xs.map alD)) (e_lst (e_ln (e_cons rfl (e_cons rfl (e_cons (e_2 rfl rfl (add_al (x := last) (y := [c0]) (by simp; omega))) (e_cons (e_2 rfl rfl (add_al (x := [c0]) (y := last) (by simp; omega))) (e_cons (e_cut rfl rfl rfl c1) (e_cons (e_cut rfl rfl (e_part (e_2 (e_call (e_cons rfl rfl) (len_al (x := last) (by omega))) rfl rfl)) c2) (e_cons rfl (e_cons rfl (e_cons (e_2 (x := alD [81]) rfl (e_cut rfl rfl rfl c3) (add_al (by simp; omega))) rfl))))))))) (by show 9 ≤ sizeLine; omega))) rfl) ?_)
  refine wpl_all (fun _ c => ∃ y10 y11 y12 y13 y14, c = [some (.fz (gD A al v rs)), some (.fz (.lst (rs.map rD))), some (.fz (.lst (ps.map pD))), some (.fz (.lst (W.map fD))), some (.fz (alD [c0])), some (.fz (.int (s : Nat))), some (.fz (.lst ((forms rs ps).map fD))), some (.fz (alD last)), some (.fz (alD goal)), some (.fz (handD s ps)), y10, y11, y12, y13, y14]) ⟨none, none, none, none, none, rfl⟩ ?_ ?_
  · rintro done x rest c q ⟨y10, y11, y12, y13, y14, rfl⟩
    have hx : x.length ≤ 100000 := hxs x (by rw [q]; simp)
    refine ⟨_, rfl, ?_⟩
    have hI := is_derivation_run A al v rs ps (handD s ps) x hx hz hp (row_hand s ps) hf
    refine wp_seq (wp_set (d := .bl (decide (ps.length < (forms rs ps).length) && decide (f = x.map Sy.l))) (e_bl (e_and (e_B (e_2 (lf _ rfl) (lp _ rfl) ?_)) fun _ => e_B (e_2 (x := fD f) (y := fD (x.map Sy.l)) (xf _ rfl) (e_call (e_cons (e_lst (xs := (x.map Sy.l).map Sy.D) (e_lc (e := Sy.D) (h := Sy.D) (xs := x.map Sy.l) (e_items rfl (iter_al x)) (by simp; omega) fun s _ => ⟨_, rfl, rfl⟩)) rfl) rfl) (form_eq _ _)))) ?_)
    · show some (D.bl (decide ((ps.length : Int) < ((forms rs ps).length : Nat)))) = _
      congr 2
      exact decide_eq_decide.mpr (by omega)
    refine wp_seq (wp_set (d := .bl (decide ((forms rs ps).length = ps.length + 1) && decide (f = x.map Sy.l))) (e_imm (e_fn (ds := [gD A al v rs, alD x, handD s ps]) rfl hI) rfl) ?_)
    have hee : decide ((forms rs ps).length = ps.length + 1) = decide (ps.length < (forms rs ps).length) := decide_eq_decide.mpr (by omega)
    rw [hee]
    generalize (decide (ps.length < (forms rs ps).length) && decide (f = x.map Sy.l)) = b
    exact wp_iff (e_or (a := false) (b := false) rfl fun _ => e_B (e_2 rfl rfl (bl_ne b))) (wp_next ⟨_, _, _, _, _, rfl⟩)
  · rintro c ⟨y10, y11, y12, y13, y14, rfl⟩
    exact wp_ret (d := .bl true) (e_2 rfl (e_fn (ds := [.lst (ps.map pD), .int (s : Nat)]) rfl hH) (hand_eq s ps)) rfl
end K40
end

section
namespace K40
open PySem PySem.Spec PyProof.Rows L2 VL
variable (A : Ad)
theorem rg_iD (a : Int) (n : Nat) : rgD a n = iD ((List.range n).map fun i => a + (i : Nat)) := by
  unfold rgD iD
  rw [List.map_map]
  rfl
theorem e_lrg {c : VL.Env} {ga gb : GE} {a b : Int} (h1 : ga c = some (.int a)) (h2 : gb c = some (.int b)) (hr : RgOk a b) : gL (gLRg (gR2 ga gb)) c = some (.lst (rgD a (b - a).toNat)) := by
  refine e_lst ?_
  unfold gLRg gR2
  rw [h1]
  simp only [h2]
  exact if_pos hr
theorem form_told_run (al : List Lt) (v : Int) (rs : List Rule) (f : Form) (dg : Int) (hz : Sz rs) (hf : f.length ≤ 40001) :
    m__law_form_told A [gD A al v rs, .lst (rs.map rD), fD f, .int dg] = some (.val (.bl true)) := by
  have hs : 1000000 ≤ sizeLine := by unfold sizeLine; omega
  have hrl := hz.1
  have lr : ∀ c : VL.Env, gLook 1 c = some (.lst (rs.map rD)) → gCall fLen (VL.gCons (gLook 1) VL.gNil) c = some (.int (rs.length : Nat)) := fun c h => by
    have := e_len h (.inl rfl); rw [List.length_map] at this; exact this
  have lf : ∀ c : VL.Env, gLook 2 c = some (fD f) → gCall fLen (VL.gCons (gLook 2) VL.gNil) c = some (.int (f.length : Nat)) := fun c h => e_lenF h
  refine m_val rfl ?_
  obtain ⟨ns, hns⟩ : ∃ ns : List Int, ns = ((List.range (((rs.length : Int) + 2) - (-2)).toNat).map fun i => (-2 : Int) + (i : Nat)) ++ [-(rs.length : Int), (rs.length : Int) + dg] := ⟨_, rfl⟩
  refine wp_seq (wp_set (d := .lst (iD ns)) (e_lst ?_) ?_)
  · rw [hns]
    show _ = some (List.map D.int _)
    rw [List.map_append]
    refine e_cat ?_ (b := iD [-(rs.length : Int), (rs.length : Int) + dg]) (e_lst (e_ln (e_cons ?_ (e_cons (e_2 (lr _ rfl) rfl rfl) rfl)) (by show 2 ≤ sizeLine; omega))) ?_
    · have := e_lrg (c := VL.envOf 11 [gD A al v rs, .lst (rs.map rD), fD f, .int dg]) (ga := gNeg (gC (.int 2))) (gb := g2 dAdd (gCall fLen (VL.gCons (gLook 1) VL.gNil)) (gC (.int 2))) (a := -2) (b := (rs.length : Int) + 2) rfl (e_2 (lr _ rfl) rfl rfl) ⟨by omega, by omega, by omega, by omega, by omega⟩
      rw [rg_iD] at this
      exact this
    · show (gCall fLen (VL.gCons (gLook 1) VL.gNil) _).bind dNeg = _
      rw [lr _ rfl]; rfl
    · simp; omega
  obtain ⟨qs, hqs⟩ : ∃ qs : List Int, qs = ((List.range (((f.length : Int) + 2) - (-(f.length : Int) - 1)).toNat).map fun i => (-(f.length : Int) - 1) + (i : Nat)) ++ [(f.length : Int) + 1 + dg] := ⟨_, rfl⟩
  refine wp_seq (wp_set (d := .lst (iD qs)) (e_lst ?_) ?_)
  · rw [hqs]
    show _ = some (List.map D.int _)
    rw [List.map_append]
    refine e_cat ?_ (b := iD [(f.length : Int) + 1 + dg]) (e_lst (e_ln (e_cons (e_2 (e_2 (lf _ rfl) rfl rfl) rfl rfl) rfl) (by show 1 ≤ sizeLine; omega))) ?_
    · have := e_lrg (c := [some (.fz (gD A al v rs)), some (.fz (.lst (rs.map rD))), some (.fz (fD f)), some (.fz (.int dg)), some (.fz (.lst (iD ns))), none, none, none, none, none, none]) (ga := g2 dSub (gNeg (gCall fLen (VL.gCons (gLook 2) VL.gNil))) (gC (.int 1))) (gb := g2 dAdd (gCall fLen (VL.gCons (gLook 2) VL.gNil)) (gC (.int 2))) (a := -(f.length : Int) - 1) (b := (f.length : Int) + 2) (e_2 (x := .int (-(f.length : Int))) ?_ rfl rfl) (e_2 (lf _ rfl) rfl rfl) ⟨by omega, by omega, by omega, by omega, by omega⟩
      · rw [rg_iD] at this
        exact this
      · show (gCall fLen (VL.gCons (gLook 2) VL.gNil) _).bind dNeg = _
        rw [lf _ rfl]; rfl
    · simp; omega
  refine wp_seq (wp_set (d := .lst (f.map Sy.D)) rfl ?_)
  let base : List (Option Cell) := [some (.fz (gD A al v rs)), some (.fz (.lst (rs.map rD))), some (.fz (fD f)), some (.fz (.int dg)), some (.fz (.lst (iD ns))), some (.fz (.lst (iD qs))), some (.fz (.lst (f.map Sy.D)))]
  refine wp_seq (wp_for (ds := ns.map D.int) rfl ?_)
  refine wpl_all (fun _ c => ∃ y7 y8 y9 y10, c = base ++ [y7, y8, y9, y10]) ⟨none, none, none, none, rfl⟩ ?_ ?_
  · rintro done n rest c q ⟨y7, y8, y9, y10, rfl⟩
    refine ⟨_, rfl, ?_⟩
    refine wp_for (ds := qs.map D.int) rfl ?_
    refine wpl_all (fun _ c => ∃ y8 y9 y10, c = base ++ [some (.fz (.int n)), y8, y9, y10]) ⟨_, _, _, rfl⟩ ?_ ?_
    · rintro done2 p rest2 c q2 ⟨y8, y9, y10, rfl⟩
      refine ⟨_, rfl, ?_⟩
      have hL := law_rewrite_run A rs f n p hz (by omega)
      refine wp_seq (wp_set (d := optD (rew rs f n p)) (e_fn (ds := [.lst (rs.map rD), fD f, .int n, .int p]) rfl hL) ?_)
      have hd : ∃ d, dIx (.lst [.lst (f.map Sy.D), fD f]) (.int (n % 2)) = some d ∧ (d = fD f ∨ d = .lst (f.map Sy.D)) := by
        have : n % 2 = 0 ∨ n % 2 = 1 := by omega
        rcases this with h | h <;> rw [h]
        · exact ⟨_, rfl, .inr rfl⟩
        · exact ⟨_, rfl, .inl rfl⟩
      obtain ⟨d, d1, d2⟩ := hd
      have hR := rewritten_runD A al v rs f n p d d2 (fun r hr => by have := hz.2 r hr; omega)
      refine wp_seq (wp_set (d := optD (rew rs f n p)) (e_fn (ds := [gD A al v rs, d, .int n, .int p]) (e_cons rfl (e_cons (e_2 (e_lst (e_ln (e_cons rfl (e_cons rfl rfl)) (by show 2 ≤ sizeLine; omega))) (e_2 rfl rfl (d_mod (by decide))) d1) rfl)) hR) ?_)
      refine wp_if (b := (rew rs f n p).isNone) (e_B (e_2 rfl rfl (optD_is _))) (fun hb => ?_) (fun hb => ?_)
      · refine wp_iff (e_B (e_2 rfl rfl ?_)) (wp_next ⟨_, _, _, rfl⟩)
        rw [optD_isNot]
        cases hh : rew rs f n p with
        | none => rfl
        | some g => rw [hh] at hb; cases hb
      · cases hh : rew rs f n p with
        | none => rw [hh] at hb; cases hb
        | some g =>
          have hgl := rew_len hz hh
          exact wp_iff (e_not (a := true) (e_tru (e_fn (ds := [fD g, fD g]) rfl (side_alike_run A g (by omega))) rfl)) (wp_next ⟨_, _, _, rfl⟩)
    · rintro c ⟨y8, y9, y10, rfl⟩
      exact ⟨_, _, _, _, rfl⟩
  · rintro c ⟨y7, y8, y9, y10, rfl⟩
    exact wp_ret (d := .bl true) (e_fn (ds := [fD f, fD f]) rfl (side_alike_run A f (by omega))) rfl
theorem fol_take (rs : List Rule) : ∀ (ps : List Pr) (f : Form) (k : Nat), fol rs f (ps.take k) = (fol rs f ps).take k
  | [], f, k => by simp [fol]
  | p :: ps, f, 0 => by simp [fol]
  | p :: ps, f, k + 1 => by
    rw [List.take_succ_cons]
    unfold fol
    split
    · rename_i g _
      rw [List.take_succ_cons, fol_take rs ps g k]
    · simp
theorem forms_take (rs : List Rule) (ps : List Pr) (k : Nat) : forms rs (ps.take k) = (forms rs ps).take (k + 1) := by
  unfold forms
  rw [List.take_succ_cons, fol_take]
theorem beginnings_run (al : List Lt) (v : Int) (rs : List Rule) (ps : List Pr) (goal : List Lt) (hg : goal.length ≤ 100000) (hz : Sz rs) (hp : ps.length ≤ 400) (hW : (forms rs ps).length = ps.length + 1) :
    m__law_beginnings_told A [gD A al v rs, .lst (ps.map pD), .lst ((forms rs ps).map fD), alD goal] = some (.val (.bl true)) := by
  have hs : 1000000 ≤ sizeLine := by unfold sizeLine; omega
  obtain ⟨hsh1, hsh2⟩ := forms_short hz hp
  generalize hWd : forms rs ps = W at hW hsh1 hsh2
  have lp : ∀ c : VL.Env, gLook 1 c = some (.lst (ps.map pD)) → gCall fLen (VL.gCons (gLook 1) VL.gNil) c = some (.int (ps.length : Nat)) := fun c h => by
    have := e_len h (.inl rfl); rw [List.length_map] at this; exact this
  refine m_val rfl ?_
  refine wp_seq (wp_asgN (ds := (ps.take 0).map pD) rfl ?_)
  have hmin : fMin [.int (ps.length : Nat), .int 9] = some (.int ((min ps.length 9 : Nat) : Int)) := by
    show some (D.int (if (9 : Int) < (ps.length : Nat) then 9 else (ps.length : Nat))) = _
    congr 2
    split <;> omega
  refine wp_seq (wp_for (ds := rgD 0 (min ps.length 9)) (e_rg1 (n := ((min ps.length 9 : Nat) : Int)) (e_cons (e_call (e_cons (lp _ rfl) (e_cons rfl rfl)) hmin) rfl) (by omega) (by omega)) ?_)
  refine wpl_rg (fun k c => ∃ y5 y6 y7, c = [some (.fz (gD A al v rs)), some (.fz (.lst (ps.map pD))), some (.fz (.lst (W.map fD))), some (.fz (alD goal)), some (.own ((ps.take k).map pD)), y5, y6, y7]) ⟨none, none, none, rfl⟩ ?_ ?_
  · rintro k c hk ⟨y5, y6, y7, rfl⟩
    have hk2 : k < ps.length := by omega
    refine ⟨_, rfl, ?_⟩
    have hkl : (ps.take k).length = k := by rw [List.length_take]; omega
    have hft : forms rs (ps.take k) = W.take k ++ [W[k]] := by
      rw [forms_take, hWd, List.take_succ, List.getElem?_eq_getElem (by omega)]
      rfl
    have hfl : (forms rs (ps.take k)).length = k + 1 := by rw [hft]; simp; omega
    have hrow : Row (.lst ((ps.take k).map pD)) (ps.take k) := row_lst pD (.inl rfl) _
    have hA := asked_run A al v rs (ps.take k) _ 0 (by decide) hz (by omega) hrow hft
    have hak : askD 0 rs (ps.take k) W[k] = .tup [.str "told", .tup ((W.take (k + 1)).map fD)] := by
      unfold askD
      rw [if_neg (by omega), if_pos rfl, forms_take, hWd]
    rw [hak] at hA
    have hak2 := ask_imm 0 rs (ps.take k) W[k]
    rw [hak] at hak2
    refine wp_seq (wp_set (d := .tup [.str "told", .tup ((W.take (k + 1)).map fD)]) (e_imm (e_fn (ds := [.int (0 : Nat), gD A al v rs, .lst ((ps.take k).map pD)]) rfl hA) hak2) ?_)
    have hal := forms_alike_run A (W.take (k + 1)) (by rw [List.length_take]; omega) (fun f hf => by have := hsh2 f (List.mem_of_mem_take hf); omega)
    refine wp_seq (wp_iff (e_or (a := false) (b := false) (e_B rfl) fun _ => e_not (a := true) (e_tru (e_fn (ds := [.tup ((W.take (k + 1)).map fD), .lst ((W.take (k + 1)).map fD)]) (e_cons rfl (e_cons (e_cut (d := .lst (W.map fD)) (lo := none) (hi := some ((k + 1 : Nat) : Int)) rfl rfl (e_part rfl) ?_) rfl)) hal) rfl)) (wp_next ?_))
    · show some (D.lst (cutD (W.map fD) _ _)) = _
      rw [cut_pre]
    have hI := is_derivation_run A al v rs (ps.take k) _ goal hg hz (by omega) hrow hft
    rw [hfl, hkl, decide_eq_true rfl, Bool.true_and] at hI
    refine wp_seq (wp_set (d := .bl (decide (W[k] = goal.map Sy.l))) (e_imm (e_fn (ds := [gD A al v rs, alD goal, .lst ((ps.take k).map pD)]) rfl hI) rfl) ?_)
    have hx : dIx (.lst (W.map fD)) (.int (k : Nat)) = some (fD W[k]) := ix_map rfl (List.getElem?_eq_getElem (by omega))
    refine wp_seq (wp_iff (e_or (a := false) (b := false) rfl fun _ => e_B (e_2 rfl (e_2 (x := fD W[k]) (y := fD (goal.map Sy.l)) (e_2 rfl rfl hx) (e_call (e_cons (e_lst (xs := (goal.map Sy.l).map Sy.D) (e_lc (e := Sy.D) (h := Sy.D) (xs := goal.map Sy.l) (e_items rfl (iter_al goal)) (by simp; omega) fun s _ => ⟨_, rfl, rfl⟩)) rfl) rfl) (form_eq _ _)) (bl_ne _))) (wp_next ?_))
    refine wp_append (ds := (ps.take k).map pD) (d := pD ps[k]) rfl (e_2 rfl rfl (ix_map rfl (List.getElem?_eq_getElem hk2))) (by simp; omega) ?_
    refine ⟨some (.fz (.int (k : Nat))), some (.fz (.bl (decide (W[k] = goal.map Sy.l)))), y7, ?_⟩
    have e : (ps.take (k + 1)).map pD = (ps.take k).map pD ++ [pD ps[k]] := by
      rw [List.take_succ, List.getElem?_eq_getElem hk2, List.map_append]
      rfl
    rw [e]
    rfl
  · rintro c ⟨y5, y6, y7, rfl⟩
    have hm : ps.take (min ps.length 9) = ps.take 9 := by
      by_cases h : ps.length ≤ 9
      · rw [Nat.min_eq_left h, List.take_of_length_le (Nat.le_refl _), List.take_of_length_le h]
      · rw [Nat.min_eq_right (by omega)]
    rw [hm]
    refine wp_ret (d := .bl true) (e_2 rfl (e_cut (d := .lst (ps.map pD)) (lo := none) (hi := some ((9 : Nat) : Int)) (z := .lst ((ps.take 9).map pD)) rfl rfl (e_part rfl) ?_) ?_) rfl
    · show some (D.lst (cutD (ps.map pD) _ _)) = _
      rw [cut_pre]
    · have := (Emb.lst (Emb.pair Emb.int Emb.int)).eq (by decide) (ps.take 9) (ps.take 9)
      simpa using this
end K40
end

section
namespace K40
open PySem PySem.Spec PyProof.Rows L2 VL
variable (A : Ad)
theorem digits_run (n : Int) (sz : List Int) (hs : ∀ s ∈ sz, 0 < s ∧ s < 2 ^ 200) (hl : sz.length < 10000) : ∃ ds : List Int, m__law_digits A [.int n, .lst (iD sz)] = some (.val (.lst (iD ds))) ∧ Dig ds sz := digI_run n sz hs hl
theorem lcell_run (xs : List Int) (k : Nat) (hk : k < 1000) : ∃ n : Int, m__law_cell A [.scr (iD xs), .int (k : Nat)] = some (.val (.int n)) := cell_run xs k hk
theorem e_draw {c : VL.Env} {xs : List Int} {k : Nat} {sz : List Int} {ge gs : GE} (hk : k < 1000) (h0 : gVar 0 c = some (.scr (iD xs))) (h1 : ge c = some (.int (k : Nat))) (h2 : gs c = some (.lst (iD sz))) (hs : ∀ s ∈ sz, 0 < s ∧ s < 2 ^ 200) (hl : sz.length < 10000) :
    ∃ row, gFn (m__law_digits A) (VL.gCons (gFn (m__law_cell A) (VL.gCons (gVar 0) (VL.gCons ge VL.gNil))) (VL.gCons gs VL.gNil)) c = some (.lst (iD row)) ∧ Dig row sz := by
  obtain ⟨n, hn⟩ := lcell_run A xs k hk
  obtain ⟨row, h3, h4⟩ := digits_run A n sz hs hl
  exact ⟨row, e_fn (e_cons (e_fn (e_cons h0 (e_cons h1 rfl)) hn) (e_cons h2 rfl)) h3, h4⟩
/-! the places of the variables -/
def isVat (f : Form) (k : Nat) : Bool := match f[k]? with
  | some s => isV s
  | none => false
def spN (f : Form) : List Nat := (List.range f.length).filter (isVat f)
theorem spN_mem {f : Form} {k : Nat} (h : k ∈ spN f) : ∃ i, f[k]? = some (Sy.v i) := by
  have h2 := (List.mem_filter.mp h).2
  unfold isVat at h2
  split at h2
  · rename_i s hs
    cases s with
    | v i => exact ⟨i, hs⟩
    | l c => cases h2
  · cases h2
theorem spots_run (f : Form) (hf : f.length < 100000) : m__law_spots A [fD f] = some (.val (.lst ((spN f).map nD))) := by
  have hs : 1000000 ≤ sizeLine := by unfold sizeLine; omega
  refine m_val rfl ?_
  refine wp_ret (d := .lst ((spN f).map nD)) (e_lst (e_lcF (e := nD) (h := nD) (xs := List.range f.length) (q := isVat f) ?_ (by simp; omega) fun k hk => ?_)) rfl
  · rw [e_rgT (e := Sy.D) (xs := f) rfl hf, rg_nD]
  · have hk2 : k < f.length := List.mem_range.mp hk
    refine ⟨_, rfl, ?_, fun _ => rfl⟩
    have hx : dIx (fD f) (.int (k : Nat)) = some f[k].D := ix_map rfl (List.getElem?_eq_getElem hk2)
    have hq : isVat f k = isV f[k] := by unfold isVat; rw [List.getElem?_eq_getElem hk2]
    rw [hq]
    generalize f[k] = s at hx
    have hi : gIsi "str" (VL.g2 dIx (gLook 0) (gLook 1)) [some (.fz (fD f)), some (.fz (nD k))] = some (.bl (!isV s)) := by
      unfold gIsi
      rw [e_2 (x := fD f) (y := nD k) rfl rfl hx]
      cases s <;> rfl
    have := e_not (e_tru hi rfl)
    rw [Bool.not_not] at this
    exact this
def closes (r : Rule) : Bool := decide ((r.1.length : Int) = 1) && decide (((spN r.2).length : Int) = 0)
theorem r_0 {c : VL.Env} {g : GE} {r : Rule} (h : g c = some (rD r)) : VL.g2 dIx g (gC (.int 0)) c = some (fD r.1) := e_2 h rfl (ix_map (e := fD) (xs := [r.1, r.2]) (k := 0) rfl rfl)
theorem r_1 {c : VL.Env} {g : GE} {r : Rule} (h : g c = some (rD r)) : VL.g2 dIx g (gC (.int 1)) c = some (fD r.2) := e_2 h rfl (ix_map (e := fD) (xs := [r.1, r.2]) (k := 1) rfl rfl)
theorem p_0 {c : VL.Env} {g : GE} {x : Pr} (h : g c = some (pD x)) : VL.g2 dIx g (gC (.int 0)) c = some (.int x.1) := e_2 h rfl (ix_map (e := D.int) (xs := [x.1, x.2]) (k := 0) rfl rfl)
theorem p_1 {c : VL.Env} {g : GE} {x : Pr} (h : g c = some (pD x)) : VL.g2 dIx g (gC (.int 1)) c = some (.int x.2) := e_2 h rfl (ix_map (e := D.int) (xs := [x.1, x.2]) (k := 1) rfl rfl)
theorem closes_run (r : Rule) (hr : r.2.length < 100000) : m__law_closes A [rD r] = some (.val (.bl (closes r))) := by
  refine m_val rfl ?_
  exact wp_ret (d := .bl (closes r)) (e_bl (e_and (e_B (e_2 (e_lenT (e := Sy.D) (r_0 rfl)) rfl (Emb.int.eq (by decide) _ _))) fun _ => e_B (e_2 (e_lenM (e := nD) (e_fn (ds := [fD r.2]) (e_cons (r_1 rfl) rfl) (spots_run A r.2 hr))) rfl (Emb.int.eq (by decide) _ _)))) rfl
/-! what can be applied -/
def Good (rs : List Rule) (f : Form) (cs : List Pr) : Prop := ∀ q ∈ cs, ∃ n : Nat, q.1 = (n : Int) ∧ n < rs.length ∧ ∃ g, rew rs f q.1 q.2 = some g
theorem rew_zero {rs : List Rule} {n : Nat} {r : Rule} (h : rs[n]? = some r) (h2 : r.1 = [Sy.v 0]) : ∃ g, rew rs [Sy.v 0] (n : Nat) (0 : Nat) = some g := by
  unfold rew
  rw [if_pos ⟨by omega, by omega⟩, Int.toNat_natCast, h]
  simp [h2]
theorem choices_run (rs : List Rule) (f : Form) (hz : Sz rs) (hn : ∀ r ∈ rs, r.1 ≠ []) (hf : f.length ≤ 20001) :
    ∃ cs, m__law_choices A [.lst (rs.map rD), fD f] = some (.val (.lst (cs.map pD))) ∧ Good rs f cs ∧ cs.length ≤ rs.length * f.length ∧ (f = [Sy.v 0] → (∃ r ∈ rs, r.1 = [Sy.v 0]) → cs ≠ []) := by
  have hs : 16000000 ≤ sizeLine := by unfold sizeLine; omega
  have key : ∃ d, m__law_choices A [.lst (rs.map rD), fD f] = some (.val d) ∧ ∃ cs, d = .lst (cs.map pD) ∧ Good rs f cs ∧ cs.length ≤ rs.length * f.length ∧ (f = [Sy.v 0] → (∃ r ∈ rs, r.1 = [Sy.v 0]) → cs ≠ []) := by
    refine m_ex rfl ?_
    refine wp_seq (wp_asgN (ds := []) rfl ?_)
    refine wp_seq (wp_for (ds := rgD 0 rs.length) (e_rgM (e := rD) (xs := rs) rfl (by have := hz.1; omega)) ?_)
    refine wpl_rg (fun k c => ∃ (cs : List Pr) (y3 y4 : Option Cell), c = [some (.fz (.lst (rs.map rD))), some (.fz (fD f)), some (.own (cs.map pD)), y3, y4] ∧ Good rs f cs ∧ cs.length ≤ k * f.length ∧ (f = [Sy.v 0] → (∃ (n : Nat) (r : Rule), n < k ∧ rs[n]? = some r ∧ r.1 = [Sy.v 0]) → cs ≠ [])) ⟨[], none, none, rfl, fun q h => by simp at h, by simp, fun _ ⟨n, r, h, _⟩ => by omega⟩ ?_ ?_
    · rintro k c hk ⟨cs, y3, y4, rfl, hg, hl, hne⟩
      have hrk : rs[k]? = some rs[k] := List.getElem?_eq_getElem hk
      have hnk := hn rs[k] (List.getElem_mem _)
      generalize rs[k] = r at hrk hnk
      refine ⟨_, rfl, ?_⟩
      refine wp_for (ds := rgD 0 f.length) (e_rgT (e := Sy.D) (xs := f) rfl (by omega)) ?_
      refine wpl_rg (fun j c => ∃ (cs : List Pr) (y4 : Option Cell), c = [some (.fz (.lst (rs.map rD))), some (.fz (fD f)), some (.own (cs.map pD)), some (.fz (nD k)), y4] ∧ Good rs f cs ∧ cs.length ≤ k * f.length + j ∧ (f = [Sy.v 0] → ((∃ (n : Nat) (r : Rule), n < k ∧ rs[n]? = some r ∧ r.1 = [Sy.v 0]) ∨ (0 < j ∧ r.1 = [Sy.v 0])) → cs ≠ [])) ⟨cs, y4, rfl, hg, by omega, fun h1 h2 => ?_⟩ ?_ ?_
      · rcases h2 with h2 | h2
        · exact hne h1 h2
        · omega
      · rintro j c hj ⟨cs, y4, rfl, hg, hl, hne⟩
        obtain ⟨s0, l', hl'⟩ : ∃ s0 l', r.1 = s0 :: l' := by
          cases hh : r.1 with
          | nil => exact absurd hh hnk
          | cons a b => exact ⟨a, b, rfl⟩
        refine ⟨_, rfl, ?_⟩
        have hx : dIx (fD f) (.int (j : Nat)) = some f[j].D := ix_map rfl (List.getElem?_eq_getElem hj)
        have hR := law_rewrite_run A rs f (k : Nat) (j : Nat) hz (by omega)
        have hs0 : dIx (fD r.1) (.int 0) = some s0.D := by
          rw [hl']
          exact ix_map (e := Sy.D) (xs := s0 :: l') (k := 0) rfl rfl
        refine wp_if (b := decide (f[j] = s0) && (rew rs f (k : Nat) (j : Nat)).isSome) (e_and (e_B (e_2 (e_2 rfl rfl hx) (e_2 (r_0 (e_2 rfl rfl (ix_map rfl hrk))) rfl hs0) (Emb.sy.eq (by decide) _ _))) fun _ => e_B (e_2 (e_fn (ds := [.lst (rs.map rD), fD f, nD k, nD j]) rfl hR) rfl (optD_isNot _))) (fun hb => ?_) (fun hb => wp_next ?_)
        · simp at hb
          have hcap : k * f.length + j < sizeLine := by
            have h1 : (k + 1) * f.length ≤ 100 * 20001 := Nat.mul_le_mul (by have := hz.1; omega) hf
            have h2 : (k + 1) * f.length = k * f.length + f.length := by rw [Nat.add_mul, Nat.one_mul]
            omega
          refine wp_append (ds := cs.map pD) (d := pD ((k : Int), (j : Int))) rfl (e_tup (e_cons rfl (e_cons rfl rfl)) (by show 2 ≤ sizeLine; omega)) (by simp; omega) ?_
          refine ⟨cs ++ [((k : Int), (j : Int))], _, by rw [List.map_append]; rfl, ?_, by simp; omega, fun _ _ => by simp⟩
          intro q hq
          rcases List.mem_append.mp hq with h | h
          · exact hg q h
          · simp at h
            subst h
            refine ⟨k, rfl, hk, ?_⟩
            obtain ⟨h1, h2⟩ := hb
            exact Option.isSome_iff_exists.mp h2
        · refine ⟨cs, _, rfl, hg, by omega, fun h1 h2 => ?_⟩
          rcases h2 with h2 | ⟨h2, h3⟩
          · exact hne h1 (.inl h2)
          · by_cases h0 : 0 < j
            · exact hne h1 (.inr ⟨h0, h3⟩)
            · exfalso
              have hj0 : j = 0 := by omega
              subst hj0
              obtain ⟨g, hgr⟩ := rew_zero hrk h3
              subst h1
              rw [hgr] at hb
              rw [hl'] at h3
              injection h3 with h4 h5
              simp [h4] at hb
      · rintro c ⟨cs, y4, rfl, hg, hl, hne⟩
        refine ⟨cs, _, _, rfl, hg, by rw [Nat.add_mul, Nat.one_mul]; exact hl, fun h1 h2 => ?_⟩
        obtain ⟨n, r', h3, h4, h5⟩ := h2
        by_cases h6 : n < k
        · exact hne h1 (.inl ⟨n, r', h6, h4, h5⟩)
        · have : n = k := by omega
          subst this
          rw [hrk] at h4
          cases h4
          exact hne h1 (.inr ⟨by rw [h1]; simp, h5⟩)
    · rintro c ⟨cs, y3, y4, rfl, hg, hl, hne⟩
      refine wp_ret (d := .lst (cs.map pD)) rfl ⟨_, rfl, cs, rfl, hg, hl, fun h1 ⟨r, h2, h3⟩ => ?_⟩
      obtain ⟨n, h4, h5⟩ := List.mem_iff_getElem.mp h2
      exact hne h1 ⟨n, r, h4, by rw [List.getElem?_eq_getElem h4, h5], h3⟩
  obtain ⟨d, h1, cs, rfl, h2⟩ := key
  exact ⟨cs, h1, h2⟩
end K40
end

section
namespace K40
open PySem PySem.Spec PyProof.Rows L2 VL
variable (A : Ad)
structure Fine (rs : List Rule) : Prop where
  sz : Sz rs
  ne : ∀ r ∈ rs, r.1 ≠ []
  st : ∃ r ∈ rs, r.1 = [Sy.v 0]
theorem drawn_row_run (xs : List Int) (rs : List Rule) (fin : Fine rs) :
    ∃ ps, m__law_drawn_row A [.scr (iD xs), .lst (rs.map rD)] = some (.val (.lst (ps.map pD))) ∧ ps ≠ [] ∧ ps.length ≤ 100 ∧ (forms rs ps).length = ps.length + 1 := by
  obtain ⟨hz, hn, hst⟩ := fin
  have hs : 16000000 ≤ sizeLine := by unfold sizeLine; omega
  have key : ∃ d, m__law_drawn_row A [.scr (iD xs), .lst (rs.map rD)] = some (.val d) ∧ ∃ ps, d = .lst (ps.map pD) ∧ ps ≠ [] ∧ ps.length ≤ 100 ∧ (forms rs ps).length = ps.length + 1 := by
    refine m_ex rfl ?_
    obtain ⟨row, r1, r2⟩ := e_draw A (c := VL.envOf 17 [.scr (iD xs), .lst (rs.map rD)]) (xs := xs) (k := 11) (sz := [8, 36, 36]) (ge := gC (.int 11)) (gs := gL (gLen (VL.gCons (gC (.int 8)) (VL.gCons (gC (.int 36)) (VL.gCons (gC (.int 36)) VL.gNil))))) (by decide) rfl rfl (e_lst (e_ln rfl (by show 3 ≤ sizeLine; omega))) (by simp) (by simp)
    refine wp_seq (wp_set (d := .lst (iD row)) r1 ?_)
    obtain ⟨dg, g1, g2'⟩ := e_draw A (c := [some (.fz (.scr (iD xs))), some (.fz (.lst (rs.map rD))), some (.fz (.lst (iD row))), none, none, none, none, none, none, none, none, none, none, none, none, none, none]) (xs := xs) (k := 12) (sz := (List.replicate 9 [2520]).flatten) (ge := gC (.int 12)) (gs := g2 dMul (gL (gLen (VL.gCons (gC (.int 2520)) VL.gNil))) (gC (.int 9))) (by decide) rfl rfl (e_2 (x := .lst (iD [2520])) (e_lst (e_ln rfl (by show 1 ≤ sizeLine; omega))) rfl (mul_iD [2520] 9 (by decide) (by decide))) (by simp) (by simp)
    refine wp_seq (wp_set (d := .lst (iD dg)) g1 ?_)
    refine wp_seq (wp_asgN (ds := []) rfl ?_)
    refine wp_seq (wp_set (d := fD [Sy.v 0]) (e_tup rfl (by show 1 ≤ sizeLine; omega)) ?_)
    obtain ⟨d0, q0, l0⟩ := row_at r2 0 rfl
    obtain ⟨d1, q1, l1⟩ := row_at r2 1 rfl
    obtain ⟨d2, q2, l2⟩ := row_at r2 2 rfl
    refine wp_seq (wp_set (d := nD (2 + d0)) (e_2 rfl (e_2 rfl rfl q0) rfl) ?_)
    refine wp_seq ?_
    refine Wp.mono (P := fun o => ∃ w : Nat, 0 < w ∧ w ≤ 20 ∧ o = .nx [some (.fz (.scr (iD xs))), some (.fz (.lst (rs.map rD))), some (.fz (.lst (iD row))), some (.fz (.lst (iD dg))), some (.own []), some (.fz (fD [Sy.v 0])), some (.fz (nD w)), none, none, none, none, none, none, none, none, none, none]) ?_ ?_
    · refine wp_if (b := decide ((d0 : Int) = 7)) (e_B (e_2 (e_2 rfl rfl q0) rfl (Emb.int.eq (by decide) _ _))) (fun hb => ?_) (fun hb => wp_next ⟨2 + d0, by omega, by omega, rfl⟩)
      exact wp_set (d := nD 20) rfl ⟨20, by decide, by decide, rfl⟩
    rintro o ⟨w, w0, w1, rfl⟩
    -- the first loop
    refine wp_seq ?_
    refine Wp.mono (P := fun o => ∃ (ps : List Pr) (pre : List Form) (f : Form) (y7 y8 y9 y10 y11 y12 : Option Cell), Pre rs ps pre f ∧ ps ≠ [] ∧ ps.length ≤ 20 ∧ o = .nx [some (.fz (.scr (iD xs))), some (.fz (.lst (rs.map rD))), some (.fz (.lst (iD row))), some (.fz (.lst (iD dg))), some (.own (ps.map pD)), some (.fz (fD f)), some (.fz (nD w)), y7, y8, y9, y10, y11, y12, none, none, none, none]) ?_ ?_
    · refine wp_for (ds := rgD 0 w) (e_rg1 (n := (w : Nat)) rfl (by omega) (by omega)) ?_
      refine wpl_rg (fun k c => ∃ (ps : List Pr) (pre : List Form) (f : Form) (y7 y8 y9 y10 y11 y12 : Option Cell), Pre rs ps pre f ∧ (0 < k → ps ≠ []) ∧ (k = 0 → f = [Sy.v 0]) ∧ ps.length ≤ k ∧ c = [some (.fz (.scr (iD xs))), some (.fz (.lst (rs.map rD))), some (.fz (.lst (iD row))), some (.fz (.lst (iD dg))), some (.own (ps.map pD)), some (.fz (fD f)), some (.fz (nD w)), y7, y8, y9, y10, y11, y12, none, none, none, none]) ⟨[], [], [Sy.v 0], none, none, none, none, none, none, pre_nil rs, by omega, fun _ => rfl, by simp, rfl⟩ ?_ ?_
      · rintro k c hk ⟨ps, pre, f, y7, y8, y9, y10, y11, y12, hP, hne, h0, hlen, rfl⟩
        refine ⟨_, rfl, ?_⟩
        have hfl : f.length ≤ 20001 := by have := hP.2.1; omega
        obtain ⟨cs, cr, cg, cl, cne⟩ := choices_run A rs f hz hn hfl
        have hcl : cs.length ≤ 100 * 20001 := Nat.le_trans cl (Nat.mul_le_mul hz.1 hfl)
        refine wp_seq (wp_set (d := .lst (cs.map pD)) (e_fn (ds := [.lst (rs.map rD), fD f]) rfl cr) ?_)
        let qo : Pr → Bool := fun x => match rs[x.1.toNat]? with | some r => !closes r | none => false
        let qb : Pr → Bool := fun x => match rs[x.1.toNat]? with | some r => decide ((1 : Int) < (r.1.length : Nat)) | none => false
        have hmem : ∀ x ∈ cs, ∃ (n : Nat) (r : Rule), x.1 = (n : Int) ∧ rs[n]? = some r ∧ dIx (.lst (rs.map rD)) (.int x.1) = some (rD r) ∧ rs[x.1.toNat]? = some r := by
          intro x hx
          obtain ⟨n, h1, h2, _⟩ := cg x hx
          have h3 : rs[n]? = some rs[n] := List.getElem?_eq_getElem h2
          exact ⟨n, rs[n], h1, h3, by rw [h1]; exact ix_map rfl h3, by rw [h1, Int.toNat_natCast]; exact h3⟩
        refine wp_seq (wp_set (d := .lst ((cs.filter qo).map pD)) (e_lst (e_lcF (e := pD) (h := pD) (xs := cs) (q := qo) rfl (by omega) fun x hx => ?_)) ?_)
        · obtain ⟨n, r, h1, h2, h3, h4⟩ := hmem x hx
          refine ⟨_, rfl, ?_, fun _ => rfl⟩
          have hq : qo x = !closes r := by simp only [qo, h4]
          rw [hq]
          have hr2 : r.2.length < 100000 := by have := hz.2 r (List.mem_of_getElem? h2); omega
          exact e_not (e_tru (e_fn (ds := [rD r]) (e_cons (e_2 rfl (p_0 rfl) h3) rfl) (closes_run A r hr2)) rfl)
        refine wp_seq (wp_set (d := .lst ((cs.filter qb).map pD)) (e_lst (e_lcF (e := pD) (h := pD) (xs := cs) (q := qb) rfl (by omega) fun x hx => ?_)) ?_)
        · obtain ⟨n, r, h1, h2, h3, h4⟩ := hmem x hx
          refine ⟨_, rfl, ?_, fun _ => rfl⟩
          have hq : qb x = decide ((1 : Int) < (r.1.length : Nat)) := by simp only [qb, h4]
          rw [hq]
          exact e_B (e_2 (e_lenT (e := Sy.D) (r_0 (e_2 rfl (p_0 rfl) h3))) rfl rfl)
        obtain ⟨dk, qk, lk⟩ := row_at g2' (k % 9) (s := 2520) ((show ∀ i, i < 9 → (List.replicate 9 [(2520 : Int)]).flatten[i]? = some 2520 by decide) _ (Nat.mod_lt _ (by decide)))
        have hmod : dMod (.int (k : Nat)) (.int 9) = some (.int ((k % 9 : Nat) : Int)) := by
          rw [d_mod (by decide)]; rfl
        refine wp_seq (wp_set (d := .int ((dk : Int) + 7 * (k : Int))) (e_call (e_cons (e_2 (e_2 rfl (e_2 (e_call (e_cons rfl rfl) rfl) rfl hmod) qk) (e_2 rfl rfl (d_mul (cmul_l (by decide) (by decide)))) rfl) rfl) rfl) ?_)
        generalize (dk : Int) + 7 * (k : Int) = digit
        refine wp_seq ?_
        refine Wp.mono (P := fun o => ∃ cs' : List Pr, (∀ x ∈ cs', x ∈ cs) ∧ (cs ≠ [] → cs' ≠ []) ∧ o = .nx [some (.fz (.scr (iD xs))), some (.fz (.lst (rs.map rD))), some (.fz (.lst (iD row))), some (.fz (.lst (iD dg))), some (.own (ps.map pD)), some (.fz (fD f)), some (.fz (nD w)), some (.fz (nD k)), some (.fz (.lst (cs'.map pD))), some (.fz (.lst ((cs.filter qo).map pD))), some (.fz (.lst ((cs.filter qb).map pD))), some (.fz (.int digit)), y12, none, none, none, none]) ?_ ?_
        · refine wp_if (b := decide ((0 : Int) < ((cs.filter qb).length : Nat)) && decide ((1 : Int) < digit % 4)) (e_and (e_B (e_2 (e_lenM (e := pD) (xs := cs.filter qb) rfl) rfl rfl)) fun _ => e_B (e_2 (e_2 (e_call (e_cons rfl rfl) rfl) rfl (d_mod (by decide))) rfl rfl)) (fun hb => ?_) (fun hb => ?_)
          · simp only [Bool.and_eq_true, decide_eq_true_eq] at hb
            exact wp_set (d := .lst ((cs.filter qb).map pD)) rfl ⟨cs.filter qb, fun x hx => (List.mem_filter.mp hx).1, fun _ h => by rw [h] at hb; simp at hb, rfl⟩
          · refine wp_if (b := decide ((0 : Int) < ((cs.filter qo).length : Nat)) && decide ((0 : Int) < digit % 4)) (e_and (e_B (e_2 (e_lenM (e := pD) (xs := cs.filter qo) rfl) rfl rfl)) fun _ => e_B (e_2 (e_2 (e_call (e_cons rfl rfl) rfl) rfl (d_mod (by decide))) rfl rfl)) (fun hb => ?_) (fun hb => wp_next ⟨cs, fun x h => h, fun h => h, rfl⟩)
            simp only [Bool.and_eq_true, decide_eq_true_eq] at hb
            exact wp_set (d := .lst ((cs.filter qo).map pD)) rfl ⟨cs.filter qo, fun x hx => (List.mem_filter.mp hx).1, fun _ h => by rw [h] at hb; simp at hb, rfl⟩
        rintro o ⟨cs', hsub, hne', rfl⟩
        refine wp_seq (wp_if (b := decide (((cs'.length : Nat) : Int) = 0)) (e_B (e_2 (e_lenM (e := pD) (xs := cs') rfl) rfl (Emb.int.eq (by decide) _ _))) (fun hb => ?_) (fun hb => wp_next ?_))
        · refine wp_break ⟨ps, pre, f, _, _, _, _, _, _, hP, ?_, by omega, rfl⟩
          by_cases hk0 : 0 < k
          · exact hne hk0
          · exfalso
            have hc := hne' (cne (h0 (by omega)) hst)
            simp at hb
            exact hc hb
        have hpos : 0 < cs'.length := by simp at hb; exact List.length_pos_iff.mpr hb
        obtain ⟨y, hy, hiy⟩ := ix_mod (e := pD) (xs := cs') (digit / 4) (d := .lst (cs'.map pD)) rfl hpos
        refine wp_seq (wp_set (d := pD y) (e_2 rfl (e_2 (e_call (e_cons (e_2 rfl rfl (d_fdiv (by decide) (by decide))) rfl) rfl) (e_lenM (e := pD) (xs := cs') rfl) (d_mod (by omega))) hiy) ?_)
        refine wp_seq (wp_append (ds := ps.map pD) (d := pD y) rfl rfl (by simp; omega) ?_)
        obtain ⟨n, n1, n2, g, hg⟩ := cg y (hsub y hy)
        have hL := law_rewrite_run A rs f y.1 y.2 hz (by omega)
        rw [hg] at hL
        refine wp_set (d := fD g) (e_fn (ds := [.lst (rs.map rD), fD f, .int y.1, .int y.2]) (e_cons rfl (e_cons rfl (e_cons (p_0 rfl) (e_cons (p_1 rfl) rfl)))) hL) ?_
        exact ⟨ps ++ [y], pre ++ [f], g, _, _, _, _, _, _, pre_snoc hz hP hg, fun _ => by simp, fun h => by omega, by simp; omega, by rw [List.map_append]; rfl⟩
      · rintro c ⟨ps, pre, f, y7, y8, y9, y10, y11, y12, hP, hne, h0, hlen, rfl⟩
        exact ⟨ps, pre, f, _, _, _, _, _, _, hP, hne w0, by omega, rfl⟩
    rintro o ⟨ps, pre, f, y7, y8, y9, y10, y11, y12, hP, hne, hlen, rfl⟩
    -- the second loop
    refine wp_seq ?_
    refine Wp.mono (P := fun o => ∃ (ps : List Pr) (pre : List Form) (f : Form) (y5 y6 y7 y8 y9 y10 y11 y12 y13 y14 y15 y16 : Option Cell), Pre rs ps pre f ∧ ps ≠ [] ∧ ps.length ≤ 100 ∧ o = .nx [some (.fz (.scr (iD xs))), some (.fz (.lst (rs.map rD))), some (.fz (.lst (iD row))), some (.fz (.lst (iD dg))), some (.own (ps.map pD)), y5, y6, y7, y8, y9, y10, y11, y12, y13, y14, y15, y16]) ?_ ?_
    · refine wp_for (ds := rgD 0 80) (e_rg1 (n := 80) rfl (by decide) (by decide)) ?_
      refine wpl_rg (fun k c => ∃ (ps : List Pr) (pre : List Form) (f : Form) (y7 y13 y14 y15 y16 : Option Cell), Pre rs ps pre f ∧ ps ≠ [] ∧ ps.length ≤ 20 + k ∧ c = [some (.fz (.scr (iD xs))), some (.fz (.lst (rs.map rD))), some (.fz (.lst (iD row))), some (.fz (.lst (iD dg))), some (.own (ps.map pD)), some (.fz (fD f)), some (.fz (nD w)), y7, y8, y9, y10, y11, y12, y13, y14, y15, y16]) ⟨ps, pre, f, y7, none, none, none, none, hP, hne, by omega, rfl⟩ ?_ ?_
      · rintro k c hk ⟨ps, pre, f, y7, y13, y14, y15, y16, hP, hne, hlen, rfl⟩
        have hfl : f.length ≤ 20001 := by have := hP.2.1; omega
        refine ⟨_, rfl, ?_⟩
        refine wp_seq (wp_set (d := .lst ((spN f).map nD)) (e_fn (ds := [fD f]) rfl (spots_run A f (by omega))) ?_)
        refine wp_seq (wp_if (b := decide ((((spN f).length : Nat) : Int) = 0)) (e_B (e_2 (e_lenM (e := nD) (xs := spN f) rfl) rfl (Emb.int.eq (by decide) _ _))) (fun hb => ?_) (fun hb => wp_next ?_))
        · exact wp_break ⟨ps, pre, f, _, _, _, _, _, _, _, _, _, _, _, _, hP, hne, by omega, rfl⟩
        have hpos : 0 < (spN f).length := by simp at hb; exact List.length_pos_iff.mpr hb
        obtain ⟨p, hp, hip⟩ := ix_mod (e := nD) (xs := spN f) ((d1 : Int) + 5 * (k : Int)) (d := .lst ((spN f).map nD)) rfl hpos
        refine wp_seq (wp_set (d := nD p) (e_2 rfl (e_2 (e_call (e_cons (e_2 (e_2 rfl rfl q1) (e_2 rfl rfl (d_mul (cmul_l (by decide) (by decide)))) rfl) rfl) rfl) (e_lenM (e := nD) (xs := spN f) rfl) (d_mod (by omega))) hip) ?_)
        obtain ⟨i, hpi⟩ := spN_mem hp
        have hxp : dIx (fD f) (nD p) = some (Sy.v i).D := ix_map rfl hpi
        let qc : Nat → Bool := fun j => match rs[j]? with | some r => decide (r.1 = [Sy.v i]) && closes r | none => false
        refine wp_seq (wp_set (d := .lst (((List.range rs.length).filter qc).map nD)) (e_lst (e_lcF (e := nD) (h := nD) (xs := List.range rs.length) (q := qc) ?_ (by have := hz.1; simp; omega) fun j hj => ?_)) ?_)
        · rw [e_rgM (e := rD) (xs := rs) rfl (by have := hz.1; omega), rg_nD]
        · have hj2 : j < rs.length := List.mem_range.mp hj
          have hrj : rs[j]? = some rs[j] := List.getElem?_eq_getElem hj2
          have hm := hz.2 rs[j] (List.getElem_mem _)
          generalize rs[j] = r at hrj hm
          refine ⟨_, rfl, ?_, fun _ => rfl⟩
          have hq : qc j = (decide (r.1 = [Sy.v i]) && closes r) := by simp only [qc, hrj]
          rw [hq]
          exact e_and (e_B (e_2 (r_0 (e_2 rfl rfl (ix_map rfl hrj))) (e_tup (e_cons (e_2 rfl rfl hxp) rfl) (by show 1 ≤ sizeLine; omega)) (form_eq r.1 [Sy.v i]))) fun _ => e_tru (e_fn (ds := [rD r]) (e_cons (e_2 rfl rfl (ix_map rfl hrj)) rfl) (closes_run A r (by omega))) rfl
        refine wp_seq (wp_if (b := decide ((((List.range rs.length).filter qc).length : Int) = 0)) (e_B (e_2 (e_lenM (e := nD) (xs := (List.range rs.length).filter qc) rfl) rfl (Emb.int.eq (by decide) _ _))) (fun hb => ?_) (fun hb => wp_next ?_))
        · exact wp_break ⟨ps, pre, f, _, _, _, _, _, _, _, _, _, _, _, _, hP, hne, by omega, rfl⟩
        have hposc : 0 < ((List.range rs.length).filter qc).length := by
          by_cases hh : 0 < ((List.range rs.length).filter qc).length
          · exact hh
          · rw [show ((List.range rs.length).filter qc).length = 0 by omega] at hb
            cases hb
        obtain ⟨j, hj, hij⟩ := ix_mod (e := nD) (xs := (List.range rs.length).filter qc) ((d2 : Int) + (k : Int)) (d := .lst (((List.range rs.length).filter qc).map nD)) rfl hposc
        have he : ∀ c : VL.Env, gLook 2 c = some (.lst (iD row)) → gLook 7 c = some (nD k) → gLook 15 c = some (.lst (((List.range rs.length).filter qc).map nD)) → VL.g2 dIx (gLook 15) (VL.g2 dMod (gCall fInt (VL.gCons (VL.g2 dAdd (VL.g2 dIx (gLook 2) (gC (.int 2))) (gLook 7)) VL.gNil)) (gCall fLen (VL.gCons (gLook 15) VL.gNil))) c = some (nD j) := fun c h1 h2 h3 => e_2 h3 (e_2 (e_call (e_cons (e_2 (e_2 h1 rfl q2) h2 rfl) rfl) rfl) (e_lenM (e := nD) (xs := (List.range rs.length).filter qc) h3) (d_mod (by omega))) hij
        have hjq := (List.mem_filter.mp hj).2
        obtain ⟨r, hrj, hr1⟩ : ∃ r, rs[j]? = some r ∧ r.1 = [Sy.v i] := by
          simp only [qc] at hjq
          split at hjq
          · rename_i r hr
            rw [Bool.and_eq_true] at hjq
            exact ⟨r, hr, of_decide_eq_true hjq.1⟩
          · cases hjq
        obtain ⟨g, hg⟩ : ∃ g, rew rs f (j : Nat) (p : Nat) = some g := by
          unfold rew
          rw [if_pos ⟨by omega, by omega⟩, Int.toNat_natCast, Int.toNat_natCast, hrj]
          have hpl : p < f.length := (List.getElem?_eq_some_iff.mp hpi).1
          have : (f.drop p).take r.1.length = r.1 := by
            rw [hr1]
            show (f.drop p).take 1 = _
            rw [List.drop_eq_getElem_cons hpl]
            have h5 := (List.getElem?_eq_some_iff.mp hpi).2
            simp [h5]
          simp only [this, if_true]
          exact ⟨_, rfl⟩
        refine wp_seq (wp_append (ds := ps.map pD) (d := pD ((j : Int), (p : Int))) rfl (e_tup (e_cons (he _ rfl rfl rfl) (e_cons rfl rfl)) (by show 2 ≤ sizeLine; omega)) (by simp; omega) ?_)
        have hL := law_rewrite_run A rs f (j : Nat) (p : Nat) hz (by omega)
        rw [hg] at hL
        refine wp_set (d := fD g) (e_fn (ds := [.lst (rs.map rD), fD f, nD j, nD p]) (e_cons rfl (e_cons rfl (e_cons (he _ rfl rfl rfl) (e_cons rfl rfl)))) hL) ?_
        exact ⟨ps ++ [((j : Int), (p : Int))], pre ++ [f], g, _, _, _, _, _, pre_snoc hz hP hg, by simp, by simp; omega, by rw [List.map_append]; rfl⟩
      · rintro c ⟨ps, pre, f, y7, y13, y14, y15, y16, hP, hne, hlen, rfl⟩
        exact ⟨ps, pre, f, _, _, _, _, _, _, _, _, _, _, _, _, hP, hne, by omega, rfl⟩
    rintro o ⟨ps, pre, f, y5, y6, y7, y8, y9, y10, y11, y12, y13, y14, y15, y16, hP, hne, hlen, rfl⟩
    refine wp_ret (d := .lst (ps.map pD)) rfl ⟨_, rfl, ps, rfl, hne, hlen, ?_⟩
    rw [pre_end hP]
    have := hP.1
    simp; omega
  obtain ⟨d, h1, ps, rfl, h2⟩ := key
  exact ⟨ps, h1, h2⟩
end K40
end

section
namespace K40
open PySem PySem.Spec PyProof.Rows L2 VL
variable (A : Ad)
theorem fol_at {rs : List Rule} : ∀ (ps : List Pr) (f : Form), (fol rs f ps).length = ps.length → ∀ (k : Nat) (x : Pr), ps[k]? = some x → ∃ a b, (f :: fol rs f ps)[k]? = some a ∧ rew rs a x.1 x.2 = some b
  | [], f, _, k, x, h => by simp at h
  | p :: ps, f, hl, k, x, h => by
    unfold fol at hl ⊢
    split at hl
    · rename_i g hg
      cases k with
      | zero =>
        simp at h
        subst h
        exact ⟨f, g, rfl, hg⟩
      | succ k =>
        obtain ⟨a, b, h1, h2⟩ := fol_at ps g (by simpa using hl) k x (by simpa using h)
        refine ⟨a, b, ?_, h2⟩
        rw [List.getElem?_cons_succ]
        exact h1
    · simp at hl
theorem rew_pos {rs : List Rule} {f g : Form} {n p : Int} (hn : ∀ r ∈ rs, r.1 ≠ []) (h : rew rs f n p = some g) : 0 < f.length := by
  unfold rew at h
  split at h
  · split at h
    · rename_i r hr
      split at h
      · rename_i h2
        have h3 := hn r (List.mem_of_getElem? hr)
        rw [← h2] at h3
        by_cases h4 : 0 < f.length
        · exact h4
        · have : f = [] := List.length_eq_zero_iff.mp (by omega)
          subst this
          simp at h3
      · cases h
    · cases h
  · cases h
abbrev szC : List Int := [13, 48, 24, 36, 10 ^ 20]
theorem e_pr {c : VL.Env} {g1 g2 : GE} {a b : Int} (h1 : g1 c = some (.int a)) (h2 : g2 c = some (.int b)) : VL.gTup (VL.gCons g1 (VL.gCons g2 VL.gNil)) c = some (pD (a, b)) :=
  e_tup (e_cons h1 (e_cons h2 rfl)) (by show 2 ≤ sizeLine; unfold sizeLine; omega)
theorem changed_row_run (rs : List Rule) (ps : List Pr) (row : List Int) (fin : Fine rs) (hd : Dig row szC) (hne : ps ≠ []) (hp : ps.length ≤ 200) (hW : (forms rs ps).length = ps.length + 1) :
    ∃ qs : List Pr, m__law_changed_row A [.lst (rs.map rD), .lst (ps.map pD), .lst (iD row)] = some (.val (.lst (qs.map pD))) ∧ qs.length ≤ ps.length + 1 := by
  have hs : 16000000 ≤ sizeLine := by unfold sizeLine; omega
  have key : ∃ d, m__law_changed_row A [.lst (rs.map rD), .lst (ps.map pD), .lst (iD row)] = some (.val d) ∧ ∃ qs : List Pr, d = .lst (qs.map pD) ∧ qs.length ≤ ps.length + 1 := by
    refine m_ex rfl ?_
    obtain ⟨d0, q0, l0⟩ := row_at hd 0 rfl
    obtain ⟨d1, q1, l1⟩ := row_at hd 1 rfl
    obtain ⟨d2, q2, l2⟩ := row_at hd 2 rfl
    obtain ⟨d3, q3, l3⟩ := row_at hd 3 rfl
    obtain ⟨d4, q4, l4⟩ := row_at hd 4 rfl
    have hpos : 0 < ps.length := List.length_pos_iff.mpr hne
    obtain ⟨k, hk, hke⟩ : ∃ k : Nat, k < ps.length ∧ (d1 : Int) % ((ps.length : Nat) : Int) = (k : Int) := ⟨d1 % ps.length, Nat.mod_lt _ hpos, rfl⟩
    have hF := follow_run A rs ps fin.sz (by omega)
    have hx : ps[k]? = some ps[k] := List.getElem?_eq_getElem hk
    obtain ⟨f, g, hf, hg⟩ := fol_at (rs := rs) ps [Sy.v 0] (by unfold forms at hW; simpa using hW) k ps[k] hx
    have hfW : (forms rs ps)[k]? = some f := hf
    have hfp := rew_pos fin.ne hg
    generalize ps[k] = x at hx
    have hrp : 0 < rs.length := by
      obtain ⟨r, h1, _⟩ := fin.st
      exact List.length_pos_iff.mpr (List.ne_nil_of_mem h1)
    have iF : dIx (.lst ((forms rs ps).map fD)) (nD k) = some (fD f) := ix_map rfl hfW
    have iX : dIx (.lst (ps.map pD)) (nD k) = some (pD x) := ix_map rfl hx
    refine wp_seq (wp_set (d := nD k) (e_2 (e_call (e_cons (e_2 rfl rfl q1) rfl) rfl) (e_lenM (e := pD) (xs := ps) rfl) (by rw [d_mod (by omega), hke])) ?_)
    refine wp_seq (wp_set (d := .lst ((forms rs ps).map fD)) (e_fn (ds := [.lst (rs.map rD), .lst (ps.map pD)]) rfl hF) ?_)
    refine wp_seq (wp_set (d := .int x.1) (p_0 (e_2 rfl rfl iX)) ?_)
    refine wp_seq (wp_set (d := .int x.2) (p_1 (e_2 rfl rfl iX)) ?_)
    have hdi : ∀ j : Int, dEq (.int (d0 : Int)) (.int j) = some (.bl (decide ((d0 : Int) = j))) := fun j => Emb.int.eq (by decide) _ _
    refine wp_seq (wp_if (b := decide ((d0 : Int) = 10)) (e_B (e_2 (e_2 rfl rfl q0) rfl (hdi 10))) (fun hb => ?_) (fun hb => wp_next ?_))
    · refine wp_ret (d := .lst ((ps.take k ++ ps.drop (k + 1)).map pD)) (e_2 (e_cut (d := .lst (ps.map pD)) (lo := none) (hi := some (k : Int)) rfl rfl rfl (cutL_pre k)) (e_cut (d := .lst (ps.map pD)) (lo := some ((k + 1 : Nat) : Int)) (hi := none) rfl (e_part rfl) rfl (cutL_suf (k + 1))) (add_lst (by simp; omega))) ⟨_, rfl, _, rfl, by simp; omega⟩
    refine wp_seq (wp_if (b := decide ((d0 : Int) = 11)) (e_B (e_2 (e_2 rfl rfl q0) rfl (hdi 11))) (fun hb => ?_) (fun hb => wp_next ?_))
    · refine wp_ret (d := .lst ((ps.take (k + 1) ++ ps.drop k).map pD)) (e_2 (e_cut (d := .lst (ps.map pD)) (lo := none) (hi := some ((k + 1 : Nat) : Int)) rfl rfl (e_part rfl) (cutL_pre (k + 1))) (e_cut (d := .lst (ps.map pD)) (lo := some (k : Int)) (hi := none) rfl rfl rfl (cutL_suf k)) (add_lst (by simp; omega))) ⟨_, rfl, _, rfl, by simp; omega⟩
    refine wp_seq (wp_if (b := decide ((d0 : Int) = 12)) (e_B (e_2 (e_2 rfl rfl q0) rfl (hdi 12))) (fun hb => ?_) (fun hb => wp_next ?_))
    · refine wp_ret (d := .lst ((ps.take k ++ (ps.drop (k + 1)).take (k + 2 - (k + 1)) ++ [x] ++ ps.drop (k + 2)).map pD)) (e_2 (e_2 (e_2 (e_cut (d := .lst (ps.map pD)) (lo := none) (hi := some (k : Int)) rfl rfl rfl (cutL_pre k)) (e_cut (d := .lst (ps.map pD)) (lo := some ((k + 1 : Nat) : Int)) (hi := some ((k + 2 : Nat) : Int)) rfl (e_part rfl) (e_part rfl) (cutL_mid (k + 1) (k + 2))) (add_lst (by simp; omega))) (e_lst (xs := [x].map pD) (e_ln (e_cons (e_2 rfl rfl iX) rfl) (by show 1 ≤ sizeLine; omega))) (add_lst (by simp; omega))) (e_cut (d := .lst (ps.map pD)) (lo := some ((k + 2 : Nat) : Int)) (hi := none) rfl (e_part rfl) rfl (cutL_suf (k + 2))) (add_lst (by simp; omega))) ⟨_, rfl, _, rfl, by simp; omega⟩
    have lr : ∀ c : VL.Env, gLook 0 c = some (.lst (rs.map rD)) → gCall fLen (VL.gCons (gLook 0) VL.gNil) c = some (.int (rs.length : Nat)) := fun c h => e_lenM (e := rD) (xs := rs) h
    have lf : ∀ c : VL.Env, gLook 4 c = some (.lst ((forms rs ps).map fD)) → gLook 3 c = some (nD k) → gCall fLen (VL.gCons (VL.g2 dIx (gLook 4) (gLook 3)) VL.gNil) c = some (.int (f.length : Nat)) := fun c h1 h2 => e_lenT (e := Sy.D) (xs := f) (e_2 h1 h2 iF)
    let m1 : List Pr := [(x.1 - (rs.length : Nat), x.2), (x.1, x.2 - (f.length : Nat)), (((rs.length : Nat) : Int), x.2)]
    let m2 : List Pr := [(x.1, ((f.length : Nat) : Int)), ((d2 : Int) % (rs.length : Nat), x.2), (x.1, (d3 : Int) % (f.length : Nat))]
    let m3 : List Pr := [((rs.length : Nat) + (d4 : Int), x.2), (x.1, (f.length : Nat) + (d4 : Int)), (-1, x.2), (x.1, -1 - (d3 : Int))]
    refine wp_seq (wp_set (d := .lst (m1.map pD)) (e_lst (e_ln (e_cons (e_pr (e_2 rfl (lr _ rfl) rfl) rfl) (e_cons (e_pr rfl (e_2 rfl (lf _ rfl rfl) rfl)) (e_cons (e_pr (lr _ rfl) rfl) rfl))) (by show 3 ≤ sizeLine; omega))) ?_)
    refine wp_seq (wp_set (d := .lst ((m1 ++ m2).map pD)) (e_2 (x := .lst (m1.map pD)) (y := .lst (m2.map pD)) rfl (e_lst (e_ln (e_cons (e_pr rfl (lf _ rfl rfl)) (e_cons (e_pr (e_2 (e_call (e_cons (e_2 rfl rfl q2) rfl) rfl) (lr _ rfl) (d_mod (by omega))) rfl) (e_cons (e_pr rfl (e_2 (e_call (e_cons (e_2 rfl rfl q3) rfl) rfl) (lf _ rfl rfl) (d_mod (by omega)))) rfl))) (by show 3 ≤ sizeLine; omega))) (add_lst (by show 6 ≤ sizeLine; omega))) ?_)
    refine wp_seq (wp_set (d := .lst (((m1 ++ m2) ++ m3).map pD)) (e_2 (x := .lst ((m1 ++ m2).map pD)) (y := .lst (m3.map pD)) rfl (e_lst (e_ln (e_cons (e_pr (e_2 (lr _ rfl) (e_2 rfl rfl q4) rfl) rfl) (e_cons (e_pr rfl (e_2 (lf _ rfl rfl) (e_2 rfl rfl q4) rfl)) (e_cons (e_pr rfl rfl) (e_cons (e_pr rfl (e_2 (x := .int (-1)) rfl (e_2 rfl rfl q3) rfl)) rfl)))) (by show 4 ≤ sizeLine; omega))) (add_lst (by show 10 ≤ sizeLine; omega))) ?_)
    have hm : ((m1 ++ m2) ++ m3).length = 10 := rfl
    have hd0 : d0 < 10 := by
      have e10 := of_decide_eq_false ‹decide ((d0 : Int) = 10) = false›
      have e11 := of_decide_eq_false ‹decide ((d0 : Int) = 11) = false›
      have e12 := of_decide_eq_false ‹decide ((d0 : Int) = 12) = false›
      omega
    obtain ⟨y, hy⟩ : ∃ y, ((m1 ++ m2) ++ m3)[d0]? = some y := ⟨_, List.getElem?_eq_getElem (by omega)⟩
    refine wp_ret (d := .lst ((ps.take k ++ [y] ++ ps.drop (k + 1)).map pD)) (e_2 (e_2 (e_cut (d := .lst (ps.map pD)) (lo := none) (hi := some (k : Int)) rfl rfl rfl (cutL_pre k)) (e_lst (xs := [y].map pD) (e_ln (e_cons (e_2 rfl (e_2 rfl rfl q0) (ix_map rfl hy)) rfl) (by show 1 ≤ sizeLine; omega))) (add_lst (by simp; omega))) (e_cut (d := .lst (ps.map pD)) (lo := some ((k + 1 : Nat) : Int)) (hi := none) rfl (e_part rfl) rfl (cutL_suf (k + 1))) (add_lst (by simp; omega))) ⟨_, rfl, _, rfl, by simp; omega⟩
  obtain ⟨d, h1, qs, rfl, h2⟩ := key
  exact ⟨qs, h1, h2⟩
/-! the alphabet -/
theorem alphabet_run (n : Int) : ∃ al, m__law_alphabet A [.int n] = some (.val (alD al)) ∧ Alph al := by
  have hs : 16000000 ≤ sizeLine := by unfold sizeLine; omega
  have key : ∃ d, m__law_alphabet A [.int n] = some (.val d) ∧ ∃ al, d = alD al ∧ Alph al := by
    refine m_ex rfl ?_
    obtain ⟨row, h1, hd⟩ := digits_run A n [4, 26, 26, 26, 26] (by simp) (by simp)
    refine wp_seq (wp_set (d := .lst (iD row)) (e_fn (ds := [.int n, .lst (iD [4, 26, 26, 26, 26])]) (e_cons rfl (e_cons (e_lst (e_ln rfl (by show 5 ≤ sizeLine; omega))) rfl)) h1) ?_)
    obtain ⟨d0, q0, l0⟩ := row_at hd 0 rfl
    obtain ⟨d1, q1, l1⟩ := dig_at hd (i := 1) rfl
    refine wp_seq (wp_set (d := alD every26) (by show some _ = some _; rw [every_eq]) ?_)
    let part : List Int := (row.drop 1).take (d0 + 1)
    have hmem : (d1 : Int) ∈ part := by
      have hl : row.length = 5 := hd.1
      have : (row.drop 1)[0]? = some (d1 : Int) := by rw [List.getElem?_drop]; exact q1
      refine List.mem_of_getElem? (i := 0) ?_
      rw [List.getElem?_take, if_pos (by omega)]
      exact this
    let sub : List Nat := (List.range 26).filter fun k => decide ((k : Int) ∈ part)
    have hsub : Alph (sub.map ltr) := by
      refine ⟨sub, ?_, ?_, ?_, rfl⟩
      · exact List.Pairwise.filter _ List.pairwise_lt_range
      · exact fun k hk => List.mem_range.mp (List.mem_filter.mp hk).1
      · refine List.ne_nil_of_mem (a := d1) (List.mem_filter.mpr ⟨List.mem_range.mpr (by omega), decide_eq_true hmem⟩)
    refine wp_ret (d := alD (sub.map ltr)) (e_2 (x := .str "") (y := .lst ((sub.map fun k => [ltr k]).map alD)) rfl (e_lst ?_) ?_) ⟨_, rfl, _, rfl, hsub⟩
    · rw [List.map_map]
      refine e_lcF (e := nD) (h := alD ∘ fun k => [ltr k]) (xs := List.range 26) (q := fun k => decide ((k : Int) ∈ part)) ?_ (by simp; omega) fun k hk => ?_
      · rw [← rg_nD]
        exact e_rg1 (n := 26) rfl (by decide) (by decide)
      · have hk2 : k < 26 := List.mem_range.mp hk
        refine ⟨_, rfl, ?_, fun _ => ?_⟩
        · refine e_B (e_2 rfl (e_cut (d := .lst (iD row)) (lo := some ((1 : Nat) : Int)) (hi := some (((1 : Nat) : Int) + ((d0 + 1 : Nat) : Int))) (z := .lst (iD part)) rfl (e_part rfl) (e_part (e_2 rfl (e_2 rfl rfl q0) (z := .int (((1 : Nat) : Int) + ((d0 + 1 : Nat) : Int))) ?_)) (cutL_any 1 (d0 + 1))) (in_iD _ _))
          show some (D.int (2 + (d0 : Int))) = _
          congr 2
          omega
        · exact e_2 rfl rfl (ix_al (x := every26) (by show 26 ≤ sizeLine; omega) (every_at hk2))
    · have hl := hsub.len
      have e : (sub.map fun k => [ltr k]).flatten = sub.map ltr := by
        generalize sub = sub
        induction sub with
        | nil => rfl
        | cons a b ih => simp [ih]
      have := dJoin_al (sub.map fun k => [ltr k]) (by rw [e]; omega)
      rw [e] at this
      exact this
  obtain ⟨d, h1, al, rfl, h2⟩ := key
  exact ⟨al, h1, h2⟩
theorem is_alphabet_run {al : List Lt} (h : Alph al) : m_is_alphabet A [alD al] = some (.val (.bl true)) := by
  have hs : 16000000 ≤ sizeLine := by unfold sizeLine; omega
  obtain ⟨l1, l2⟩ := h.len
  obtain ⟨sub, h1, h2, h3, rfl⟩ := h
  rw [List.length_map] at l1 l2
  have ll : ∀ c : VL.Env, gLook 0 c = some (alD (sub.map ltr)) → gCall fLen (VL.gCons (gLook 0) VL.gNil) c = some (.int (sub.length : Nat)) := fun c h => by
    have := e_call (ga := VL.gCons (gLook 0) VL.gNil) (e_cons h rfl) (len_al (x := sub.map ltr) (by simp; omega))
    rw [List.length_map] at this
    exact this
  refine m_val rfl ?_
  refine wp_seq (wp_iff (e_not (a := true) (e_B ?_)) (wp_next ?_))
  · have e0 : gLook 0 (VL.envOf 2 [alD (sub.map ltr)]) = some (alD (sub.map ltr)) := rfl
    show (match some (D.int 1) with
      | some x => match gCall fLen (VL.gCons (gLook 0) VL.gNil) (VL.envOf 2 [alD (sub.map ltr)]) with
        | some y => match dLe x y with
          | some (.bl true) => (match gC (.int 26) (VL.envOf 2 [alD (sub.map ltr)]) with | some z => dLe y z | none => none)
          | some (.bl false) => some (.bl false)
          | _ => none
        | none => none
      | none => none) = _
    rw [ll _ e0]
    have q1 : dLe (.int 1) (.int (sub.length : Nat)) = some (.bl true) := by show some (D.bl (decide ((1 : Int) ≤ (sub.length : Nat)))) = _; rw [decide_eq_true (by omega)]
    have q2 : dLe (.int (sub.length : Nat)) (.int 26) = some (.bl true) := by show some (D.bl (decide (((sub.length : Nat) : Int) ≤ 26))) = _; rw [decide_eq_true (by omega)]
    simp only [q1]
    exact q2
  refine wp_seq (wp_for (ds := rgD 0 sub.length) (e_rg1 (n := (sub.length : Nat)) (e_cons (ll _ rfl) rfl) (by omega) (by omega)) ?_)
  refine wpl_rg (fun k c => ∃ y, c = [some (.fz (alD (sub.map ltr))), y]) ⟨none, rfl⟩ ?_ ?_
  · rintro k c hk ⟨y, rfl⟩
    have hx : ∀ (j : Nat) (hj : j < sub.length), dIx (alD (sub.map ltr)) (nD j) = some (.str (ltS (ltr sub[j]))) := fun j hj => ix_al (by simp; omega) (by rw [List.getElem?_map, List.getElem?_eq_getElem hj]; rfl)
    have hkv : (ltr sub[k]).val = 97 + sub[k] := ltr_val (h2 _ (List.getElem_mem _))
    have hin : dNotIn (.str (ltS (ltr sub[k]))) (.str "abcdefghijklmnopqrstuvwxyz") = some (.bl false) := by
      rw [every_eq]
      show some (D.bl (!decide ((ltr sub[k]).val ∈ (every26.map Fin.val).toArray.toList))) = _
      rw [decide_eq_true]
      · rfl
      · exact List.mem_map.mpr ⟨_, List.mem_of_getElem? (every_at (h2 _ (List.getElem_mem hk))), rfl⟩
    refine ⟨_, rfl, ?_⟩
    refine wp_seq (wp_iff (e_B (e_2 (e_2 rfl rfl (hx k hk)) rfl hin)) (wp_next ?_))
    refine wp_iff ?_ (wp_next ⟨_, rfl⟩)
    by_cases h0 : 0 < k
    · have hk1 : k - 1 < sub.length := by omega
      have hlt : sub[k - 1] < sub[k] := List.pairwise_iff_getElem.mp h1 (k - 1) k hk1 hk (by omega)
      have hv1 : (ltr sub[k - 1]).val = 97 + sub[k - 1] := ltr_val (h2 _ (List.getElem_mem _))
      have hge : dGe (.str (ltS (ltr sub[k - 1]))) (.str (ltS (ltr sub[k]))) = some (.bl false) := by
        show some (D.bl (!decide ([(ltr sub[k - 1]).val] < [(ltr sub[k]).val]))) = _
        rw [decide_eq_true]
        · rfl
        · rw [List.cons_lt_cons_iff]
          left
          omega
      have hix : VL.g2 dIx (gLook 0) (VL.g2 dSub (gLook 1) (gC (.int 1))) [some (.fz (alD (sub.map ltr))), some (.fz (nD k))] = some (.str (ltS (ltr sub[k - 1]))) := by
        refine e_2 rfl (e_2 (x := nD k) rfl rfl (z := nD (k - 1)) ?_) (hx (k - 1) hk1)
        show some (D.int ((k : Int) - 1)) = _
        congr 2
        omega
      exact (e_and (a := true) (b := false) (e_B (e_2 rfl rfl (by show some (D.bl (decide ((0 : Int) < (k : Nat)))) = _; rw [decide_eq_true (by omega)]))) fun _ => e_B (e_2 hix (e_2 rfl rfl (hx k hk)) hge))
    · exact e_and (a := false) (b := false) (e_B (e_2 rfl rfl (by show some (D.bl (decide ((0 : Int) < (k : Nat)))) = _; rw [decide_eq_false (by omega)]))) fun h => by cases h
  · rintro c ⟨y, rfl⟩
    exact wp_ret (d := .bl true) rfl rfl
end K40
end

section
namespace K40
open PySem PySem.Spec PyProof.Rows L2 VL
variable (A : Ad)
theorem okSy_v {al : List Lt} {v i : Int} (h1 : 0 ≤ i) (h2 : i < v) : okSy al v (.v i) = true := by
  show (decide (0 ≤ i) && decide (i < v)) = true
  rw [decide_eq_true h1, decide_eq_true h2]
  rfl
theorem symbol_run (d : Nat) (al : List Lt) (v : Nat) (hal : 0 < al.length) (hl : al.length ≤ 1000) (hv : 0 < v) : ∃ s, m__law_symbol A [nD d, alD al, nD v] = some (.val s.D) ∧ okSy al v s = true := by
  have hs : 16000000 ≤ sizeLine := by unfold sizeLine; omega
  have key : ∃ x, m__law_symbol A [nD d, alD al, nD v] = some (.val x) ∧ ∃ s : Sy, x = s.D ∧ okSy al v s = true := by
    refine m_ex rfl ?_
    have hf : dFdiv (nD d) (.int 2) = some (.int ((d : Int) / 2)) := d_fdiv (by decide) (by decide)
    refine wp_seq (wp_if (b := decide ((d : Int) % 2 = 0)) (e_B (e_2 (e_2 (e_call (e_cons rfl rfl) rfl) rfl (d_mod (by decide))) rfl (Emb.int.eq (by decide) _ _))) (fun hb => ?_) (fun hb => wp_next ?_))
    · obtain ⟨k, hk, hke⟩ : ∃ k : Nat, k < al.length ∧ ((d : Int) / 2) % ((al.length : Nat) : Int) = (k : Int) := ⟨(d / 2) % al.length, Nat.mod_lt _ hal, rfl⟩
      refine wp_ret (d := (Sy.l al[k]).D) (e_2 rfl (e_2 (e_call (e_cons (e_2 rfl rfl hf) rfl) rfl) (e_call (e_cons rfl rfl) (len_al (x := al) (by omega))) (by rw [d_mod (by omega), hke])) (ix_al (by omega) (List.getElem?_eq_getElem hk))) ⟨_, rfl, .l al[k], rfl, ?_⟩
      exact decide_eq_true (List.getElem_mem _)
    · refine wp_ret (d := (Sy.v (((d : Int) / 2) % (v : Int))).D) (e_2 (e_call (e_cons (e_2 rfl rfl hf) rfl) rfl) rfl (d_mod (by omega))) ⟨_, rfl, _, rfl, ?_⟩
      have h1 := Int.emod_nonneg ((d : Int) / 2) (show (v : Int) ≠ 0 by omega)
      have h2 := Int.emod_lt_of_pos ((d : Int) / 2) (show (0 : Int) < (v : Int) by omega)
      exact okSy_v h1 h2
  obtain ⟨x, h1, s, rfl, h2⟩ := key
  exact ⟨s, h1, h2⟩
theorem okRule_of {al : List Lt} {v : Int} {l r : Form} (h1 : ∀ s ∈ l, okSy al v s = true) (h2 : ∀ s ∈ r, okSy al v s = true) (h3 : l.any isV = true) : okRule al v (l, r) = true := by
  unfold okRule
  rw [Bool.and_eq_true, List.all_eq_true]
  refine ⟨fun s hs => ?_, h3⟩
  rcases List.mem_append.mp hs with h | h
  · exact h1 s h
  · exact h2 s h
/-- rules as they are drawn -/
def Drawn (al : List Lt) (v : Nat) (rs : List Rule) : Prop := ∀ r ∈ rs, okRule al v r = true ∧ r.1.length ≤ 40 ∧ r.2.length ≤ 4
theorem dig_iD {sz row : List Int} (h : Dig row sz) : ∃ ns : List Nat, row = ns.map fun (n : Nat) => (n : Int) := by
  refine ⟨row.map Int.toNat, ?_⟩
  rw [List.map_map]
  refine (List.map_id' row).symm.trans ?_
  refine List.map_congr_left fun x hx => ?_
  obtain ⟨i, hi, rfl⟩ := List.mem_iff_getElem.mp hx
  have := h.2 i row[i] (sz[i]'(by rw [← h.1]; exact hi)) (List.getElem?_eq_getElem hi) (List.getElem?_eq_getElem _)
  show row[i] = ((row[i].toNat : Nat) : Int)
  omega
theorem grown_run (xs : List Int) (al : List Lt) (v many : Nat) (hal : 0 < al.length) (hl : al.length ≤ 1000) (hv : 0 < v) (hm : many ≤ 7) (hm0 : 0 < many) :
    ∃ rs, m__law_grown_rules A [.scr (iD xs), alD al, nD v, nD many] = some (.val (.lst (rs.map rD))) ∧ Drawn al v rs ∧ rs.length = many ∧ ∃ r ∈ rs, r.1 = [Sy.v 0] := by
  have hs : 16000000 ≤ sizeLine := by unfold sizeLine; omega
  have ok0 : okSy al v (.v 0) = true := okSy_v (by omega) (by omega)
  have key : ∃ x, m__law_grown_rules A [.scr (iD xs), alD al, nD v, nD many] = some (.val x) ∧ ∃ rs : List Rule, x = .lst (rs.map rD) ∧ Drawn al v rs ∧ rs.length = many ∧ ∃ r ∈ rs, r.1 = [Sy.v 0] := by
    refine m_ex rfl ?_
    refine wp_seq (wp_asgN (ds := []) rfl ?_)
    refine wp_seq (wp_set (d := fD [Sy.v 0]) (e_tup rfl (by show 1 ≤ sizeLine; omega)) ?_)
    refine wp_seq (wp_for (ds := rgD 0 many) (e_rg1 (n := (many : Nat)) rfl (by omega) (by omega)) ?_)
    refine wpl_rg (fun k c => ∃ (rs : List Rule) (f : Form) (y6 y7 y8 y9 y10 y11 y12 y13 y14 : Option Cell), Drawn al v rs ∧ rs.length = k ∧ (∀ s ∈ f, okSy al v s = true) ∧ f.length ≤ 1 + 4 * k ∧ (k = 0 → f = [Sy.v 0]) ∧ (0 < k → ∃ r ∈ rs, r.1 = [Sy.v 0]) ∧ c = [some (.fz (.scr (iD xs))), some (.fz (alD al)), some (.fz (nD v)), some (.fz (nD many)), some (.own (rs.map rD)), some (.fz (fD f)), y6, y7, y8, y9, y10, y11, y12, y13, y14]) ⟨[], [Sy.v 0], none, none, none, none, none, none, none, none, none, fun r h => by simp at h, rfl, by simp [ok0], by simp, fun _ => rfl, by omega, rfl⟩ ?_ ?_
    · rintro k c hk ⟨rs, f, y6, y7, y8, y9, y10, y11, y12, y13, y14, hD, hrl, hfo, hfl, hf0, hst, rfl⟩
      refine ⟨_, rfl, ?_⟩
      obtain ⟨row, r1, r2⟩ := e_draw A (c := [some (.fz (.scr (iD xs))), some (.fz (alD al)), some (.fz (nD v)), some (.fz (nD many)), some (.own (rs.map rD)), some (.fz (fD f)), some (.fz (nD k)), y7, y8, y9, y10, y11, y12, y13, y14]) (xs := xs) (k := 2 + k) (sz := [24, 4, 7] ++ (List.replicate 4 [48]).flatten) (ge := g2 dAdd (gC (.int 2)) (gVar 6)) (gs := gL (gCat (gL (gLen (VL.gCons (gC (.int 24)) (VL.gCons (gC (.int 4)) (VL.gCons (gC (.int 7)) VL.gNil))))) (g2 dMul (gL (gLen (VL.gCons (gC (.int 48)) VL.gNil))) (gC (.int 4))))) (by omega) rfl rfl (e_lst (by
        refine e_cat (a := iD [24, 4, 7]) (b := iD (List.replicate 4 [48]).flatten) (e_lst (e_ln rfl (by show 3 ≤ sizeLine; omega))) (e_2 (x := .lst (iD [48])) (e_lst (e_ln rfl (by show 1 ≤ sizeLine; omega))) rfl (mul_iD [48] 4 (by decide) (by decide))) ?_
        show 3 + 4 ≤ sizeLine
        omega)) (by simp) (by simp)
      refine wp_seq (wp_set (d := .lst (iD row)) r1 ?_)
      obtain ⟨d0, q0, l0⟩ := row_at r2 0 rfl
      obtain ⟨d1, q1, l1⟩ := row_at r2 1 rfl
      obtain ⟨d2, q2, l2⟩ := row_at r2 2 rfl
      obtain ⟨d3, q3, l3⟩ := row_at r2 3 rfl
      refine wp_seq (wp_set (d := .lst ((spN f).map nD)) (e_fn (ds := [fD f]) rfl (spots_run A f (by omega))) ?_)
      refine wp_seq ?_
      refine Wp.mono (P := fun o => ∃ (f : Form) (sp : List Nat), (∀ s ∈ f, okSy al v s = true) ∧ f.length ≤ 1 + 4 * k ∧ (k = 0 → f = [Sy.v 0]) ∧ 0 < sp.length ∧ (∀ p ∈ sp, ∃ i, f[p]? = some (Sy.v i)) ∧ o = .nx [some (.fz (.scr (iD xs))), some (.fz (alD al)), some (.fz (nD v)), some (.fz (nD many)), some (.own (rs.map rD)), some (.fz (fD f)), some (.fz (nD k)), some (.fz (.lst (iD row))), some (.fz (.lst (sp.map nD))), y9, y10, y11, y12, y13, y14]) ?_ ?_
      · refine wp_if (b := decide ((((spN f).length : Nat) : Int) = 0)) (e_B (e_2 (e_lenM (e := nD) (xs := spN f) rfl) rfl (Emb.int.eq (by decide) _ _))) (fun hb => ?_) (fun hb => wp_next ⟨f, spN f, hfo, hfl, hf0, ?_, fun p hp => spN_mem hp, rfl⟩)
        · refine wp_seq (wp_set (d := fD [Sy.v 0]) (e_tup rfl (by show 1 ≤ sizeLine; omega)) ?_)
          refine wp_set (d := .lst ([0].map nD)) (e_lst (e_ln rfl (by show 1 ≤ sizeLine; omega))) ⟨[Sy.v 0], [0], by simp [ok0], by simp, fun _ => rfl, by decide, ?_, rfl⟩
          intro p hp
          simp at hp
          subst hp
          exact ⟨0, rfl⟩
        · have := of_decide_eq_false hb
          omega
      clear hfo hfl hf0
      rintro o ⟨f, sp, hfo, hfl, hf0, hsp, hspm, rfl⟩
      obtain ⟨p, hp, hip⟩ := ix_mod (e := nD) (xs := sp) (d0 : Int) (d := .lst (sp.map nD)) rfl hsp
      obtain ⟨i, hpi⟩ := hspm p hp
      have hpl : p < f.length := (List.getElem?_eq_some_iff.mp hpi).1
      refine wp_seq (wp_set (d := nD p) (e_2 rfl (e_2 (e_call (e_cons (e_2 rfl rfl q0) rfl) rfl) (e_lenM (e := nD) (xs := sp) rfl) (d_mod (by omega))) hip) ?_)
      obtain ⟨b, hb, hbe⟩ : ∃ b : Nat, b ≤ p ∧ fMax [.int 0, .int ((p : Int) - (d1 : Int) % 2)] = some (nD b) := by
        by_cases h : ((p : Int) - (d1 : Int) % 2) > 0
        · refine ⟨((p : Int) - (d1 : Int) % 2).toNat, by omega, ?_⟩
          show some (D.int (if ((p : Int) - (d1 : Int) % 2) > 0 then _ else _)) = some (D.int _)
          rw [if_pos h]
          congr 2
          omega
        · refine ⟨0, by omega, ?_⟩
          show some (D.int (if ((p : Int) - (d1 : Int) % 2) > 0 then _ else _)) = some (D.int _)
          rw [if_neg h]
          rfl
      refine wp_seq (wp_set (d := nD b) (e_call (e_cons rfl (e_cons (e_2 rfl (e_2 (e_call (e_cons (e_2 rfl rfl q1) rfl) rfl) rfl (d_mod (by decide))) rfl) rfl)) hbe) ?_)
      obtain ⟨e, he1, he2, hee⟩ : ∃ e : Nat, p < e ∧ e ≤ f.length ∧ fMin [.int (f.length : Nat), .int ((p : Int) + 1 + (d1 : Int) / 2)] = some (nD e) := by
        by_cases h : ((p : Int) + 1 + (d1 : Int) / 2) < (f.length : Nat)
        · refine ⟨((p : Int) + 1 + (d1 : Int) / 2).toNat, by omega, by omega, ?_⟩
          show some (D.int (if ((p : Int) + 1 + (d1 : Int) / 2) < (f.length : Nat) then _ else _)) = some (D.int _)
          rw [if_pos h]
          congr 2
        · refine ⟨f.length, by omega, by omega, ?_⟩
          show some (D.int (if ((p : Int) + 1 + (d1 : Int) / 2) < (f.length : Nat) then _ else _)) = some (D.int _)
          rw [if_neg h]
      refine wp_seq (wp_set (d := nD e) (e_call (e_cons (e_lenT (e := Sy.D) (xs := f) rfl) (e_cons (e_2 (e_2 rfl rfl rfl) (e_2 (e_2 rfl rfl q1) rfl (d_fdiv (by decide) (by decide))) rfl) rfl)) hee) ?_)
      obtain ⟨w1, hw1, hw1l⟩ : ∃ w : Nat, dIx (.lst ([1, 2, 3, 0, 4, 2, 3].map nD)) (.int (d2 : Int)) = some (nD w) ∧ w ≤ 4 := by
        have hh : d2 < ([1, 2, 3, 0, 4, 2, 3] : List Nat).length := by simp; omega
        exact ⟨_, ix_map rfl (List.getElem?_eq_getElem hh), (show ∀ x ∈ ([1, 2, 3, 0, 4, 2, 3] : List Nat), x ≤ 4 by decide) _ (List.getElem_mem _)⟩
      obtain ⟨w2, hw2, hw2l, hw2g⟩ : ∃ w : Nat, dIx (.lst ([2, 3, 4, 2, 3, 4, 3].map nD)) (.int (d2 : Int)) = some (nD w) ∧ w ≤ 4 ∧ 0 < w := by
        have hh : d2 < ([2, 3, 4, 2, 3, 4, 3] : List Nat).length := by simp; omega
        exact ⟨_, ix_map rfl (List.getElem?_eq_getElem hh), (show ∀ x ∈ ([2, 3, 4, 2, 3, 4, 3] : List Nat), x ≤ 4 ∧ 0 < x by decide) _ (List.getElem_mem _)⟩
      refine wp_seq (wp_set (d := nD w1) (e_2 (e_lst (e_ln rfl (by show 7 ≤ sizeLine; omega))) (e_2 rfl rfl q2) hw1) ?_)
      have hdk : dEq (nD k) (.int 0) = some (.bl (decide ((k : Int) = 0))) := Emb.int.eq (by decide) _ _
      refine wp_seq ?_
      refine Wp.mono (P := fun o => ∃ w : Nat, w ≤ 4 ∧ (k = 0 → 0 < w) ∧ o = .nx [some (.fz (.scr (iD xs))), some (.fz (alD al)), some (.fz (nD v)), some (.fz (nD many)), some (.own (rs.map rD)), some (.fz (fD f)), some (.fz (nD k)), some (.fz (.lst (iD row))), some (.fz (.lst (sp.map nD))), some (.fz (nD p)), some (.fz (nD b)), some (.fz (nD e)), some (.fz (nD w)), y13, y14]) ?_ ?_
      · refine wp_if (b := decide ((k : Int) = 0)) (e_B (e_2 rfl rfl hdk)) (fun hb => ?_) (fun hb => wp_next ⟨w1, hw1l, fun h => by subst h; simp at hb, rfl⟩)
        exact wp_set (d := nD w2) (e_2 (e_lst (e_ln rfl (by show 7 ≤ sizeLine; omega))) (e_2 rfl rfl q2) hw2) ⟨w2, hw2l, fun _ => hw2g, rfl⟩
      rintro o ⟨w, hw, hwk, rfl⟩
      obtain ⟨ns, hns⟩ := dig_iD r2
      have hrowl : row.length = 7 := r2.1
      have hcut : dCut (.lst (iD row)) (some ((3 : Nat) : Int)) (some (((3 : Nat) : Int) + (w : Nat))) = some (.lst (((ns.drop 3).take w).map nD)) := by
        have h1 := cutL_any (e := D.int) (xs := row) 3 w
        rw [show (iD row) = row.map D.int from rfl, h1, hns, ← List.map_drop, ← List.map_take, List.map_map]
        rfl
      have hnl : ((ns.drop 3).take w).length = w := by
        rw [hns] at hrowl
        simp at hrowl
        simp
        omega
      obtain ⟨ys, e1, e2, e3⟩ := e_lcE (c := [some (.fz (.scr (iD xs))), some (.fz (alD al)), some (.fz (nD v)), some (.fz (nD many)), some (.own (rs.map rD)), some (.fz (fD f)), some (.fz (nD k)), some (.fz (.lst (iD row))), some (.fz (.lst (sp.map nD))), some (.fz (nD p)), some (.fz (nD b)), some (.fz (nD e)), some (.fz (nD w)), y13, y14]) (gi := gIt (gCut (gVar 7) (gPart (gC (.int 3))) (gPart (g2 dAdd (gC (.int 3)) (gLook 12))))) (f := fName 14) (ge := gFn (m__law_symbol A) (VL.gCons (gVar 14) (VL.gCons (gVar 1) (VL.gCons (gVar 2) VL.gNil)))) (vs := [14]) (e := nD) (h := Sy.D) (S := fun s => okSy al v s = true) (xs := (ns.drop 3).take w) (e_items (e_cut rfl (e_part rfl) (e_part rfl) hcut) rfl) (by omega) (fun d _ => by
        obtain ⟨s, h1, h2⟩ := symbol_run A d al v hal hl hv
        exact ⟨_, s, rfl, e_fn (ds := [nD d, alD al, nD v]) rfl h1, h2⟩)
      rw [hnl] at e2
      refine wp_seq (wp_asgN (ds := ys.map Sy.D) e1 ?_)
      refine wp_seq ?_
      refine Wp.mono (P := fun o => ∃ ys : List Sy, ys.length = w ∧ (∀ s ∈ ys, okSy al v s = true) ∧ o = .nx [some (.fz (.scr (iD xs))), some (.fz (alD al)), some (.fz (nD v)), some (.fz (nD many)), some (.own (rs.map rD)), some (.fz (fD f)), some (.fz (nD k)), some (.fz (.lst (iD row))), some (.fz (.lst (sp.map nD))), some (.fz (nD p)), some (.fz (nD b)), some (.fz (nD e)), some (.fz (nD w)), some (.own (ys.map Sy.D)), y14]) ?_ ?_
      · refine wp_if (b := decide ((k : Int) = 0)) (e_B (e_2 rfl rfl hdk)) (fun hb => ?_) (fun hb => wp_next ⟨ys, e2, e3, rfl⟩)
        have hw0 : 0 < w := hwk (by simpa using hb)
        obtain ⟨j, hj, hje⟩ : ∃ j : Nat, j < w ∧ (d0 : Int) % ((w : Nat) : Int) = (j : Int) := ⟨d0 % w, Nat.mod_lt _ hw0, rfl⟩
        refine wp_setIx (ds := ys.map Sy.D) (d := (Sy.v (((d0 : Int) + (d3 : Int)) % (v : Int))).D) (j := j) rfl (e_2 (e_call (e_cons (e_2 (e_2 rfl rfl q0) (e_2 rfl rfl q3) rfl) rfl) rfl) rfl (d_mod (by omega))) (e_2 (e_call (e_cons (e_2 rfl rfl q0) rfl) rfl) rfl (by rw [d_mod (by omega), hje])) (by rw [List.length_map]; omega) ?_
        refine ⟨ys.set j (Sy.v (((d0 : Int) + (d3 : Int)) % (v : Int))), by rw [List.length_set]; exact e2, fun s hs2 => ?_, by rw [List.map_set]; rfl⟩
        rcases List.mem_or_eq_of_mem_set hs2 with h | h
        · exact e3 s h
        · rw [h]
          have h1 := Int.emod_nonneg ((d0 : Int) + (d3 : Int)) (show (v : Int) ≠ 0 by omega)
          have h2 := Int.emod_lt_of_pos ((d0 : Int) + (d3 : Int)) (show (0 : Int) < (v : Int) by omega)
          exact okSy_v h1 h2
      clear e1 e2 e3
      rintro o ⟨ys, e2, e3, rfl⟩
      refine wp_seq (wp_frz (wp_set (d := fD ys) rfl ?_))
      let r : Rule := ((f.drop b).take (e - b), ys)
      refine wp_seq (wp_frz (wp_append (ds := rs.map rD) (d := rD r) rfl (e_tup (e_cons (e_cut (d := fD f) rfl (e_part rfl) (e_part rfl) (cutT_mid b e)) (e_cons rfl rfl)) (by show 2 ≤ sizeLine; omega)) (by simp; omega) ?_))
      have hta : (f.take b).length ≤ f.length := by rw [List.length_take]; omega
      have htd : (f.drop e).length ≤ f.length := by rw [List.length_drop]; omega
      refine wp_frz (wp_set (d := fD (f.take b ++ ys ++ f.drop e)) (e_2 (e_2 (e_cut (d := fD f) rfl rfl (e_part rfl) (cut_pre2 f b)) rfl (y := fD ys) (add_form (by omega))) (e_cut (d := fD f) rfl (e_part rfl) rfl (cut_suf2 f e)) (add_form (by rw [List.length_append]; omega))) ?_)
      refine ⟨rs ++ [r], f.take b ++ ys ++ f.drop e, _, _, _, _, _, _, _, _, _, ?_, by simp [hrl], ?_, ?_, fun h => by omega, fun _ => ?_, by rw [List.map_append]; rfl⟩
      · intro x hx
        rcases List.mem_append.mp hx with h | h
        · exact hD x h
        · simp only [List.mem_singleton] at h
          subst h
          refine ⟨okRule_of (fun s hs2 => hfo s (List.mem_of_mem_drop (List.mem_of_mem_take hs2))) e3 ?_, ?_, ?_⟩
          · rw [List.any_eq_true]
            refine ⟨Sy.v i, ?_, rfl⟩
            refine List.mem_of_getElem? (i := p - b) ?_
            rw [List.getElem?_take, if_pos (by omega), List.getElem?_drop, show b + (p - b) = p by omega]
            exact hpi
          · show ((f.drop b).take (e - b)).length ≤ 40
            rw [List.length_take, List.length_drop]
            omega
          · show ys.length ≤ 4
            omega
      · intro s hs2
        rcases List.mem_append.mp hs2 with h | h
        · rcases List.mem_append.mp h with h | h
          · exact hfo s (List.mem_of_mem_take h)
          · exact e3 s h
        · exact hfo s (List.mem_of_mem_drop h)
      · rw [List.length_append, List.length_append, List.length_take, List.length_drop]
        omega
      · by_cases hk0 : 0 < k
        · obtain ⟨r', h1, h2⟩ := hst hk0
          exact ⟨r', by simp [h1], h2⟩
        · refine ⟨r, by simp, ?_⟩
          have hf := hf0 (by omega)
          subst hf
          simp at hpl he2
          show ([Sy.v 0].drop b).take (e - b) = _
          have hb0 : b = 0 := by omega
          have he0 : e = 1 := by omega
          subst hb0 he0
          rfl
    · rintro c ⟨rs, f, y6, y7, y8, y9, y10, y11, y12, y13, y14, hD, hrl, hfo, hfl, hf0, hst, rfl⟩
      exact wp_ret (d := .lst (rs.map rD)) rfl ⟨_, rfl, rs, rfl, hD, hrl, hst hm0⟩
  obtain ⟨x, h1, rs, rfl, h2⟩ := key
  exact ⟨rs, h1, h2⟩
theorem iD_part {row : List Int} {ns : List Nat} (h : row = ns.map fun (n : Nat) => (n : Int)) (p m : Nat) : dCut (.lst (iD row)) (some (p : Int)) (some ((p : Int) + (m : Nat))) = some (.lst (((ns.drop p).take m).map nD)) := by
  have h1 := cutL_any (e := D.int) (xs := row) p m
  rw [show (iD row) = row.map D.int from rfl, h1, h, ← List.map_drop, ← List.map_take, List.map_map]
  rfl
theorem rep3_at (a b c : Int) : ∀ (v k : Nat), k < v → (List.replicate v [a, b, c]).flatten[3 * k]? = some a
  | 0, k, h => by omega
  | v + 1, 0, _ => rfl
  | v + 1, k + 1, h => by
    rw [List.replicate_succ, List.flatten_cons, List.getElem?_append_right (by simp; omega)]
    have := rep3_at a b c v k (by omega)
    rw [show 3 * (k + 1) - [a, b, c].length = 3 * k by simp; omega]
    exact this
theorem closing_run (n : Int) (al : List Lt) (v : Nat) (lost : Nat) (hal : 0 < al.length) (hl : al.length ≤ 1000) (hv : v ≤ 12) :
    ∃ rs, m__law_closing_rules A [.int n, alD al, nD v, nD lost] = some (.val (.lst (rs.map rD))) ∧ Drawn al v rs ∧ rs.length ≤ v := by
  have hs : 16000000 ≤ sizeLine := by unfold sizeLine; omega
  have key : ∃ x, m__law_closing_rules A [.int n, alD al, nD v, nD lost] = some (.val x) ∧ ∃ rs : List Rule, x = .lst (rs.map rD) ∧ Drawn al v rs ∧ rs.length ≤ v := by
    refine m_ex rfl ?_
    have hfl : ((List.replicate v [(3 : Int), 24, 24]).flatten).length = v * 3 := by simp
    obtain ⟨row, r1, r2⟩ := digits_run A n (List.replicate v [3, 24, 24]).flatten (by
      intro s hs2
      rw [List.mem_flatten] at hs2
      obtain ⟨l, h1, h2⟩ := hs2
      rw [List.mem_replicate] at h1
      rw [h1.2] at h2
      simp at h2
      rcases h2 with rfl | rfl <;> simp) (by omega)
    refine wp_seq (wp_set (d := .lst (iD row)) (e_fn (ds := [.int n, .lst (iD (List.replicate v [3, 24, 24]).flatten)]) (e_cons rfl (e_cons (e_2 (x := .lst (iD [3, 24, 24])) (e_lst (e_ln rfl (by show 3 ≤ sizeLine; omega))) rfl (mul_iD [3, 24, 24] v (by simp; omega) (by omega))) rfl)) r1) ?_)
    refine wp_seq (wp_asgN (ds := []) rfl ?_)
    refine wp_seq (wp_for (ds := rgD 0 v) (e_rg1 (n := (v : Nat)) rfl (by omega) (by omega)) ?_)
    refine wpl_rg (fun k c => ∃ (rs : List Rule) (y6 y7 y8 : Option Cell), Drawn al v rs ∧ rs.length ≤ k ∧ c = [some (.fz (.int n)), some (.fz (alD al)), some (.fz (nD v)), some (.fz (nD lost)), some (.fz (.lst (iD row))), some (.own (rs.map rD)), y6, y7, y8]) ⟨[], none, none, none, fun r h => by simp at h, by simp, rfl⟩ ?_ ?_
    · rintro k c hk ⟨rs, y6, y7, y8, hD, hrl, rfl⟩
      refine ⟨_, rfl, ?_⟩
      obtain ⟨d, q, l⟩ := row_at r2 (3 * k) (rep3_at 3 24 24 v k hk)
      obtain ⟨ns, hns⟩ := dig_iD r2
      have h3k : ∀ c : VL.Env, gLook 6 c = some (nD k) → VL.g2 dMul (gC (.int 3)) (gLook 6) c = some (nD (3 * k)) := fun c h => e_2 rfl h (by rw [show nD k = D.int (k : Nat) from rfl, d_mul (cmul_l (by decide) (by decide))]; rfl)
      obtain ⟨ys, e1, e2, e3⟩ := e_lcE (c := [some (.fz (.int n)), some (.fz (alD al)), some (.fz (nD v)), some (.fz (nD lost)), some (.fz (.lst (iD row))), some (.own (rs.map rD)), some (.fz (nD k)), y7, y8]) (gi := gIt (gCut (gVar 4) (gPart (g2 dAdd (g2 dMul (gC (.int 3)) (gLook 6)) (gC (.int 1)))) (gPart (g2 dAdd (g2 dAdd (g2 dMul (gC (.int 3)) (gLook 6)) (gC (.int 1))) (g2 dIx (gLook 4) (g2 dMul (gC (.int 3)) (gLook 6))))))) (f := fName 8) (ge := g2 dIx (gLook 1) (g2 dMod (gCall fInt (VL.gCons (gLook 8) VL.gNil)) (gCall fLen (VL.gCons (gLook 1) VL.gNil)))) (vs := [8]) (e := nD) (h := Sy.D) (S := fun s => okSy al v s = true) (xs := (ns.drop (3 * k + 1)).take d) (e_items (e_cut (d := .lst (iD row)) (lo := some ((3 * k + 1 : Nat) : Int)) (hi := some (((3 * k + 1 : Nat) : Int) + (d : Nat))) rfl (e_part (e_2 (h3k _ rfl) rfl rfl)) (e_part (e_2 (e_2 (h3k _ rfl) rfl rfl) (e_2 rfl (h3k _ rfl) q) rfl)) (iD_part hns (3 * k + 1) d)) rfl) (by rw [List.length_take]; omega) (fun x _ => by
        obtain ⟨j, hj, hje⟩ : ∃ j : Nat, j < al.length ∧ (x : Int) % ((al.length : Nat) : Int) = (j : Int) := ⟨x % al.length, Nat.mod_lt _ hal, rfl⟩
        exact ⟨_, .l al[j], rfl, e_2 rfl (e_2 (e_call (e_cons rfl rfl) rfl) (e_call (e_cons rfl rfl) (len_al (x := al) (by omega))) (by rw [d_mod (by omega), hje])) (ix_al (by omega) (List.getElem?_eq_getElem hj)), decide_eq_true (List.getElem_mem _)⟩)
      refine wp_seq (wp_set (d := .lst (ys.map Sy.D)) (e_lst e1) ?_)
      refine wp_if (b := !decide ((k : Int) = (lost : Int))) (e_B (e_2 rfl rfl (Emb.int.ne (by decide) _ _))) (fun hb => ?_) (fun hb => wp_next ⟨rs, _, _, _, hD, by omega, rfl⟩)
      refine wp_append (ds := rs.map rD) (d := rD ([Sy.v k], ys)) rfl (e_tup (e_cons (e_tup (e_cons rfl rfl) (by show 1 ≤ sizeLine; omega)) (e_cons rfl rfl)) (by show 2 ≤ sizeLine; omega)) (by simp; omega) ?_
      refine ⟨rs ++ [([Sy.v k], ys)], _, _, _, ?_, by simp; omega, by rw [List.map_append]; rfl⟩
      intro x hx
      rcases List.mem_append.mp hx with h | h
      · exact hD x h
      · simp only [List.mem_singleton] at h
        subst h
        refine ⟨okRule_of (fun s hs2 => ?_) e3 rfl, by simp, ?_⟩
        · simp at hs2
          subst hs2
          exact okSy_v (by omega) (by omega)
        · rw [List.length_take] at e2
          show ys.length ≤ 4
          omega
    · rintro c ⟨rs, y6, y7, y8, hD, hrl, rfl⟩
      exact wp_ret (d := .lst (rs.map rD)) rfl ⟨_, rfl, rs, rfl, hD, hrl⟩
  obtain ⟨x, h1, rs, rfl, h2⟩ := key
  exact ⟨rs, h1, h2⟩
theorem getD_at {α : Type} {xs : List α} {i : Nat} (d : α) (h : i < xs.length) : xs.getD i d = xs[i] := by
  unfold List.getD
  rw [List.getElem?_eq_getElem h]
  rfl
theorem rules_run (xs : List Int) (al : List Lt) (v : Nat) (hal : 0 < al.length) (hl : al.length ≤ 1000) (hv0 : 0 < v) (hv : v ≤ 12) :
    ∃ rs, m__law_rules A [.scr (iD xs), alD al, nD v] = some (.val (.lst (rs.map rD))) ∧ Drawn al v rs ∧ rs.length ≤ 20 ∧ ∃ r ∈ rs, r.1 = [Sy.v 0] := by
  have hs : 16000000 ≤ sizeLine := by unfold sizeLine; omega
  have key : ∃ x, m__law_rules A [.scr (iD xs), alD al, nD v] = some (.val x) ∧ ∃ rs : List Rule, x = .lst (rs.map rD) ∧ Drawn al v rs ∧ rs.length ≤ 20 ∧ ∃ r ∈ rs, r.1 = [Sy.v 0] := by
    refine m_ex rfl ?_
    obtain ⟨row, r1, r2⟩ := e_draw A (c := VL.envOf 8 [.scr (iD xs), alD al, nD v]) (xs := xs) (k := 9) (sz := [5, 4, 12, 4, 12, 20, 2]) (ge := gC (.int 9)) (gs := gL (gLen (VL.gCons (gC (.int 5)) (VL.gCons (gC (.int 4)) (VL.gCons (gC (.int 12)) (VL.gCons (gC (.int 4)) (VL.gCons (gC (.int 12)) (VL.gCons (gC (.int 20)) (VL.gCons (gC (.int 2)) VL.gNil))))))))) (by decide) rfl rfl (e_lst (e_ln rfl (by show 7 ≤ sizeLine; omega))) (by simp) (by simp)
    refine wp_seq (wp_set (d := .lst (iD row)) r1 ?_)
    obtain ⟨d0, q0, l0⟩ := row_at r2 0 rfl
    obtain ⟨d1, q1, l1⟩ := row_at r2 1 rfl
    obtain ⟨d2, q2, l2⟩ := row_at r2 2 rfl
    obtain ⟨d3, q3, l3⟩ := row_at r2 3 rfl
    obtain ⟨d4, q4, l4⟩ := row_at r2 4 rfl
    obtain ⟨d5, q5, l5⟩ := row_at r2 5 rfl
    obtain ⟨d6, q6, l6⟩ := row_at r2 6 rfl
    refine wp_seq (wp_set (d := nD v) rfl ?_)
    refine wp_seq ?_
    refine Wp.mono (P := fun o => ∃ lost : Nat, o = .nx [some (.fz (.scr (iD xs))), some (.fz (alD al)), some (.fz (nD v)), some (.fz (.lst (iD row))), some (.fz (nD lost)), none, none, none]) ?_ ?_
    · refine wp_if (b := decide ((d1 : Int) = 0)) (e_B (e_2 (e_2 rfl rfl q1) rfl (Emb.int.eq (by decide) _ _))) (fun hb => ?_) (fun hb => wp_next ⟨v, rfl⟩)
      exact wp_set (d := nD (d2 % v)) (e_2 (e_call (e_cons (e_2 rfl rfl q2) rfl) rfl) rfl (by rw [show nD v = D.int (v : Nat) from rfl, d_mod (by omega)]; rfl)) ⟨d2 % v, rfl⟩
    rintro o ⟨lost, rfl⟩
    obtain ⟨g, g1, g2', g3, g4⟩ := grown_run A xs al v (3 + d0) hal hl hv0 (by omega) (by omega)
    refine wp_seq (wp_set (d := .lst (g.map rD)) (e_fn (ds := [.scr (iD xs), alD al, nD v, nD (3 + d0)]) (e_cons rfl (e_cons rfl (e_cons rfl (e_cons (e_2 rfl (e_2 rfl rfl q0) rfl) rfl)))) g1) ?_)
    obtain ⟨n10, hn10⟩ := lcell_run A xs 10 (by decide)
    obtain ⟨cl, c1, c2, c3⟩ := closing_run A n10 al v lost hal hl hv
    refine wp_seq (wp_frz (wp_asgN (ds := (g ++ cl).map rD) ?_ ?_))
    · rw [List.map_append]
      refine e_cat (a := g.map rD) rfl (e_fn (ds := [.int n10, alD al, nD v, nD lost]) (e_cons (e_fn (ds := [.scr (iD xs), .int (10 : Nat)]) rfl hn10) (e_cons rfl (e_cons rfl (e_cons rfl rfl)))) c1) (by simp; omega)
    have b0 : Drawn al v (g ++ cl) ∧ (g ++ cl).length ≤ 19 ∧ 0 < (g ++ cl).length ∧ ∃ r ∈ g ++ cl, r.1 = [Sy.v 0] := by
      refine ⟨fun r hr => ?_, by simp; omega, by simp; omega, ?_⟩
      · rcases List.mem_append.mp hr with h | h
        · exact g2' r h
        · exact c2 r h
      · obtain ⟨r, h1, h2⟩ := g4
        exact ⟨r, by simp [h1], h2⟩
    generalize g ++ cl = rs at b0
    obtain ⟨b1, b2, b3, b4⟩ := b0
    refine wp_seq ?_
    refine Wp.mono (P := fun o => ∃ rs : List Rule, Drawn al v rs ∧ rs.length ≤ 20 ∧ 0 < rs.length ∧ (∃ r ∈ rs, r.1 = [Sy.v 0]) ∧ o = .nx [some (.fz (.scr (iD xs))), some (.fz (alD al)), some (.fz (nD v)), some (.fz (.lst (iD row))), some (.fz (nD lost)), some (.own (rs.map rD)), none, none]) ?_ ?_
    · refine wp_if (b := decide ((d3 : Int) = 0)) (e_B (e_2 (e_2 rfl rfl q3) rfl (Emb.int.eq (by decide) _ _))) (fun hb => ?_) (fun hb => wp_next ⟨rs, b1, by omega, b3, b4, rfl⟩)
      obtain ⟨r, hr, hri⟩ := ix_mod (e := rD) (xs := rs) (d4 : Int) (d := .lst (rs.map rD)) rfl b3
      refine wp_append (ds := rs.map rD) (d := rD r) rfl (e_2 rfl (e_2 (e_call (e_cons (e_2 rfl rfl q4) rfl) rfl) (e_lenM (e := rD) (xs := rs) rfl) (d_mod (by omega))) hri) (by simp; omega) ?_
      refine ⟨rs ++ [r], fun x hx => ?_, by simp; omega, by simp, ?_, by rw [List.map_append]; rfl⟩
      · rcases List.mem_append.mp hx with h | h
        · exact b1 x h
        · simp only [List.mem_singleton] at h
          rw [h]; exact b1 r hr
      · obtain ⟨r', h1, h2⟩ := b4
        exact ⟨r', by simp [h1], h2⟩
    clear b1 b2 b3 b4
    rintro o ⟨rs, b1, b2, b3, b4, rfl⟩
    obtain ⟨t, ht, hte⟩ : ∃ t : Nat, t < rs.length ∧ (d5 : Int) % ((rs.length : Nat) : Int) = (t : Int) := ⟨d5 % rs.length, Nat.mod_lt _ b3, rfl⟩
    refine wp_seq (wp_set (d := nD t) (e_2 (e_call (e_cons (e_2 rfl rfl q5) rfl) rfl) (e_lenM (e := rD) (xs := rs) rfl) (by rw [d_mod (by omega), hte])) ?_)
    refine wp_seq (wp_frz (wp_asgN (ds := (rs.drop t ++ rs.take t).map rD) ?_ ?_))
    · rw [List.map_append]
      exact e_cat (e_cut (d := .lst (rs.map rD)) rfl (e_part rfl) rfl (cutL_suf t)) (e_cut (d := .lst (rs.map rD)) rfl rfl (e_part rfl) (cutL_pre t)) (by simp; omega)
    have hperm : ∀ r, r ∈ rs.drop t ++ rs.take t ↔ r ∈ rs := by
      intro r
      rw [List.mem_append, or_comm, ← List.mem_append, List.take_append_drop]
    have hlen : (rs.drop t ++ rs.take t).length = rs.length := by simp; omega
    have b0 : Drawn al v (rs.drop t ++ rs.take t) ∧ (rs.drop t ++ rs.take t).length ≤ 20 ∧ 0 < (rs.drop t ++ rs.take t).length ∧ ∃ r ∈ rs.drop t ++ rs.take t, r.1 = [Sy.v 0] := by
      refine ⟨fun r hr => b1 r ((hperm r).mp hr), by omega, by omega, ?_⟩
      obtain ⟨r, h1, h2⟩ := b4
      exact ⟨r, (hperm r).mpr h1, h2⟩
    generalize rs.drop t ++ rs.take t = rs at b0
    clear hperm hlen
    obtain ⟨b1, b2, b3, b4⟩ := b0
    refine wp_seq ?_
    refine Wp.mono (P := fun o => ∃ rs : List Rule, Drawn al v rs ∧ rs.length ≤ 20 ∧ (∃ r ∈ rs, r.1 = [Sy.v 0]) ∧ o = .nx [some (.fz (.scr (iD xs))), some (.fz (alD al)), some (.fz (nD v)), some (.fz (.lst (iD row))), some (.fz (nD lost)), some (.own (rs.map rD)), some (.fz (nD t)), none]) ?_ ?_
    · refine wp_if (b := decide ((d6 : Int) = 1)) (e_B (e_2 (e_2 rfl rfl q6) rfl (Emb.int.eq (by decide) _ _))) (fun hb => ?_) (fun hb => wp_next ⟨rs, b1, b2, b4, rfl⟩)
      let h : Nat → Rule := fun k => rs.getD (rs.length - 1 - k) ([], [])
      refine wp_asgN (ds := ((List.range rs.length).map h).map rD) ?_ ⟨(List.range rs.length).map h, ?_, by simpa using b2, ?_, rfl⟩
      · rw [List.map_map]
        refine e_lc (e := nD) (h := rD ∘ h) (xs := List.range rs.length) ?_ (by simp; omega) fun k hk => ⟨_, rfl, ?_⟩
        · rw [e_rgM (e := rD) (xs := rs) rfl (by omega), rg_nD]
        · have hk2 : k < rs.length := List.mem_range.mp hk
          have hi : rs.length - 1 - k < rs.length := by omega
          refine e_2 rfl (e_2 (e_2 (e_lenM (e := rD) (xs := rs) rfl) rfl rfl) rfl rfl) (ix_at (ds := rs.map rD) (k := rs.length - 1 - k) rfl ?_ _ (by omega))
          rw [List.getElem?_map, List.getElem?_eq_getElem hi]
          show some _ = some (rD (rs.getD (rs.length - 1 - k) ([], [])))
          rw [getD_at _ hi]
      · intro r hr
        obtain ⟨k, hk, rfl⟩ := List.mem_map.mp hr
        have hk2 : k < rs.length := List.mem_range.mp hk
        have hi : rs.length - 1 - k < rs.length := by omega
        have : h k ∈ rs := by
          show rs.getD (rs.length - 1 - k) ([], []) ∈ rs
          rw [getD_at _ hi]
          exact List.getElem_mem _
        exact b1 _ this
      · obtain ⟨r, h1, h2⟩ := b4
        obtain ⟨j, hj, hje⟩ := List.mem_iff_getElem.mp h1
        refine ⟨r, List.mem_map.mpr ⟨rs.length - 1 - j, List.mem_range.mpr (by omega), ?_⟩, h2⟩
        show rs.getD (rs.length - 1 - (rs.length - 1 - j)) ([], []) = r
        rw [show rs.length - 1 - (rs.length - 1 - j) = j by omega, getD_at _ hj, hje]
    rintro o ⟨rs, b1, b2, b4, rfl⟩
    exact wp_ret (d := .lst (rs.map rD)) rfl ⟨_, rfl, rs, rfl, b1, b2, b4⟩
  obtain ⟨x, h1, rs, rfl, h2⟩ := key
  exact ⟨rs, h1, h2⟩
end K40
end

section
namespace K40
open PySem PySem.Spec PyProof.Rows L2 VL
variable (A : Ad)
theorem okV_of {al : List Lt} {v : Nat} (hv : v ≤ 12) {f : Form} (h : ∀ s ∈ f, okSy al v s = true) : okV f := by
  intro s hs i hi
  have := h s hs
  rw [hi] at this
  have h2 : (decide (0 ≤ i) && decide (i < (v : Int))) = true := this
  rw [Bool.and_eq_true, decide_eq_true_eq, decide_eq_true_eq] at h2
  omega
theorem drawn_sy {al : List Lt} {v : Int} {r : Rule} (h : okRule al v r = true) : (∀ s ∈ r.1, okSy al v s = true) ∧ (∀ s ∈ r.2, okSy al v s = true) ∧ r.1 ≠ [] := by
  unfold okRule at h
  rw [Bool.and_eq_true, List.all_eq_true] at h
  refine ⟨fun s hs => h.1 s (List.mem_append.mpr (.inl hs)), fun s hs => h.1 s (List.mem_append.mpr (.inr hs)), fun hn => ?_⟩
  rw [hn] at h
  simp at h
theorem drawn_facts {al : List Lt} {v : Nat} {rs : List Rule} (hv : v ≤ 12) (h : Drawn al v rs) (hl : rs.length ≤ 20) (hst : ∃ r ∈ rs, r.1 = [Sy.v 0]) : Fine rs ∧ OkV rs := by
  refine ⟨⟨⟨by omega, fun r hr => ?_⟩, fun r hr => (drawn_sy (h r hr).1).2.2, hst⟩, fun r hr => ?_⟩
  · have := (h r hr).2
    omega
  · obtain ⟨h1, h2, _⟩ := drawn_sy (h r hr).1
    exact ⟨okV_of hv h1, okV_of hv h2⟩
abbrev rL (r : Rule) : D := .lst [.lst (r.1.map Sy.D), .lst (r.2.map Sy.D)]
/-- Grammar, of rules handed as lists or as tuples -/
theorem Grammar_runL (al : List Lt) (v : Int) (rs : List Rule) (ha : m_is_alphabet A [alD al] = some (.val (.bl true))) (hv : 1 ≤ v) (hr : ∀ r ∈ rs, okRule al v r = true ∧ r.1.length + r.2.length ≤ 1000) (hl : rs.length ≤ 10000) :
    i_Grammar A [alD al, .int v, .lst (rs.map rL)] = some (gNs, [alD al, .int v, .tup (rs.map rD)]) := by
  refine i_val rfl ?_
  have h1 := check_alphabet_run A ha
  refine wp_seq (wp_drop (d := .non) (e_fn (ds := [alD al]) rfl h1) ?_)
  refine wp_seq (wp_iff (p := gB (VL.g2 dLt (gLook 2) (gC (.int 1)))) ?_ (wp_next ?_))
  · show some (decide (v < 1)) = _
    simp; omega
  refine wp_seq (wp_asgN (ds := []) rfl ?_)
  refine wp_seq (wp_for (ds := enD 0 (rs.map rL)) rfl ?_)
  refine wpl_en (fun done c => ∃ y1 y2 y3 y4, c = [some (.slf A.C_Grammar [] []), some (.fz (alD al)), some (.fz (.int v)), some (.fz (.lst (rs.map rL))), some (.own (done.map rD)), y1, y2, y3, y4]) [] rs _ ⟨none, none, none, none, rfl⟩ ?_ ?_
  · rintro done x rest c q ⟨y1, y2, y3, y4, rfl⟩
    refine ⟨_, rfl, ?_⟩
    obtain ⟨h2, h3⟩ := hr x (by rw [← List.nil_append rs, q]; simp)
    refine wp_seq (wp_par (x := fD x.1) (y := fD x.2) rfl ?_)
    have h4 := is_rule_run A al v x.1 x.2 h3
    have h5 : m_is_rule A [fD x.1, fD x.2, alD al, .int v] = some (.val (.bl true)) := by rw [h4, h2]
    refine wp_seq (wp_iff ?_ (wp_next ?_))
    · exact e_not (e_tru (e_fn (ds := [fD x.1, fD x.2, alD al, .int v]) rfl h5) rfl)
    have hlen : done.length < 10000 := by
      have := congrArg List.length q
      simp at this
      omega
    refine wp_append (ds := done.map rD) (d := rD x) rfl rfl (by simp; unfold sizeLine; omega) ?_
    exact ⟨_, _, _, _, by rw [List.map_append]; rfl⟩
  · rintro c ⟨y1, y2, y3, y4, rfl⟩
    refine wp_seq (wp_fldS (d := alD al) rfl rfl ⟨by simp, by decide⟩ ?_)
    refine wp_seq (wp_fldS (d := .int v) rfl rfl ⟨by decide, by decide⟩ ?_)
    refine wp_frz (wp_fldS (d := .tup (rs.map rD)) rfl rfl ⟨by decide, by decide⟩ ?_)
    exact ⟨_, rfl, rfl⟩
theorem law_run (xs : List Int) : m_law A [.scr (iD xs)] = some (.val (.bl true)) := by
  have hs : 16000000 ≤ sizeLine := by unfold sizeLine; omega
  refine m_val rfl ?_
  obtain ⟨n0, hn0⟩ := lcell_run A xs 0 (by decide)
  obtain ⟨al, a1, hal⟩ := alphabet_run A n0
  obtain ⟨al0, al1⟩ := hal.len
  have hia := is_alphabet_run A hal
  refine wp_seq (wp_set (d := alD al) (e_fn (ds := [.int n0]) (e_cons (e_fn (ds := [.scr (iD xs), .int (0 : Nat)]) rfl hn0) rfl) a1) ?_)
  obtain ⟨row, r1, r2⟩ := e_draw A (c := [some (.fz (.scr (iD xs))), some (.fz (alD al)), none, none, none, none, none, none, none, none, none, none, none, none, none, none, none, none, none, none, none, none]) (xs := xs) (k := 1) (sz := [8, 4, 46, 48, 7, 3, 10 ^ 12]) (ge := gC (.int 1)) (gs := gL (gLen (VL.gCons (gC (.int 8)) (VL.gCons (gC (.int 4)) (VL.gCons (gC (.int 46)) (VL.gCons (gC (.int 48)) (VL.gCons (gC (.int 7)) (VL.gCons (gC (.int 3)) (VL.gCons (g2 dPow (gC (.int 10)) (gC (.int 12))) VL.gNil))))))))) (by decide) rfl rfl (e_lst (e_ln (e_cons rfl (e_cons rfl (e_cons rfl (e_cons rfl (e_cons rfl (e_cons rfl (e_cons (e_2 rfl rfl (d_pow ⟨by decide, by decide, by decide⟩)) rfl))))))) (by show 7 ≤ sizeLine; omega))) (by simp) (by simp)
  refine wp_seq (wp_set (d := .lst (iD row)) r1 ?_)
  obtain ⟨d0, q0, l0⟩ := row_at r2 0 rfl
  obtain ⟨d1, q1, l1⟩ := row_at r2 1 rfl
  obtain ⟨d2, q2, l2⟩ := row_at r2 2 rfl
  obtain ⟨d3, q3, l3⟩ := row_at r2 3 rfl
  obtain ⟨d4, q4, l4⟩ := row_at r2 4 rfl
  obtain ⟨d5, q5, l5⟩ := row_at r2 5 rfl
  obtain ⟨d6, q6, l6⟩ := row_at r2 6 rfl
  refine wp_seq (wp_set (d := nD (1 + d1)) (e_2 rfl (e_2 rfl rfl q1) rfl) ?_)
  refine wp_seq ?_
  refine Wp.mono (P := fun o => ∃ v : Nat, 0 < v ∧ v ≤ 12 ∧ o = .nx [some (.fz (.scr (iD xs))), some (.fz (alD al)), some (.fz (.lst (iD row))), some (.fz (nD v)), none, none, none, none, none, none, none, none, none, none, none, none, none, none, none, none, none, none]) ?_ ?_
  · refine wp_if (b := decide ((d0 : Int) = 0)) (e_B (e_2 (e_2 rfl rfl q0) rfl (Emb.int.eq (by decide) _ _))) (fun hb => ?_) (fun hb => wp_next ⟨1 + d1, by omega, by omega, rfl⟩)
    exact wp_set (d := nD 12) rfl ⟨12, by decide, by decide, rfl⟩
  rintro o ⟨v, hv0, hv, rfl⟩
  obtain ⟨rs, rr, hD, hrl, hst⟩ := rules_run A xs al v al0 (by omega) hv0 hv
  obtain ⟨fin, okv⟩ := drawn_facts hv hD hrl hst
  refine wp_seq (wp_set (d := .lst (rs.map rD)) (e_fn (ds := [.scr (iD xs), alD al, nD v]) rfl rr) ?_)
  have hok : ∀ r ∈ rs, okRule al v r = true ∧ r.1.length + r.2.length ≤ 1000 := fun r hr => ⟨(hD r hr).1, by have := (hD r hr).2; omega⟩
  have hG := Grammar_runL A al v rs hia (by omega) hok (by omega)
  refine wp_seq (wp_set (d := gD A al v rs) (e_make (ds := [alD al, nD v, .lst (rs.map rL)]) (e_cons rfl (e_cons rfl (e_cons (e_lst (e_lc (e := rD) (h := rL) (xs := rs) rfl (by omega) fun r _ => ⟨_, rfl, e_lst (e_ln (e_cons (e_lst (xs := r.1.map Sy.D) rfl) (e_cons (e_lst (xs := r.2.map Sy.D) rfl) rfl)) (by show 2 ≤ sizeLine; omega))⟩)) rfl))) hG) ?_)
  obtain ⟨ps, p1, p2, p3, p4⟩ := drawn_row_run A xs rs fin
  have hp0 : 0 < ps.length := List.length_pos_iff.mpr p2
  refine wp_seq (wp_set (d := .lst (ps.map pD)) (e_fn (ds := [.scr (iD xs), .lst (rs.map rD)]) rfl p1) ?_)
  refine wp_seq (wp_set (d := .lst ((forms rs ps).map fD)) (e_fn (ds := [.lst (rs.map rD), .lst (ps.map pD)]) rfl (follow_run A rs ps fin.sz (by omega))) ?_)
  obtain ⟨hsh1, hsh2⟩ := forms_short fin.sz (show ps.length ≤ 400 by omega)
  have hWo := forms_okV okv ps
  obtain ⟨pre, f, hpf⟩ := forms_last rs ps
  have hfm : f ∈ forms rs ps := by rw [hpf]; simp
  have hbeg := beginnings_run A al v rs ps
  refine wp_seq (wp_iff (e_or (a := false) (b := false) (e_B (e_2 (e_lenM (e := pD) (xs := ps) rfl) rfl ?_)) fun _ => e_B (e_2 (e_lenM (e := fD) (xs := forms rs ps) rfl) (e_2 (e_lenM (e := pD) (xs := ps) rfl) rfl rfl) ?_)) (wp_next ?_))
  · rw [Emb.int.eq (by decide), decide_eq_false (by omega)]
  · rw [Emb.int.ne (by decide), decide_eq_true (by omega)]
    rfl
  obtain ⟨line, n1, n2⟩ := e_draw A (c := [some (.fz (.scr (iD xs))), some (.fz (alD al)), some (.fz (.lst (iD row))), some (.fz (nD v)), some (.fz (.lst (rs.map rD))), some (.fz (gD A al v rs)), some (.fz (.lst (ps.map pD))), some (.fz (.lst ((forms rs ps).map fD))), none, none, none, none, none, none, none, none, none, none, none, none, none, none]) (xs := xs) (k := 13) (sz := (List.replicate 7 [48]).flatten) (ge := gC (.int 13)) (gs := g2 dMul (gL (gLen (VL.gCons (gC (.int 48)) VL.gNil))) (gC (.int 7))) (by decide) rfl rfl (e_2 (x := .lst (iD [48])) (e_lst (e_ln rfl (by show 1 ≤ sizeLine; omega))) rfl (mul_iD [48] 7 (by decide) (by decide))) (by simp) (by simp)
  refine wp_seq (wp_set (d := .lst (iD line)) n1 ?_)
  obtain ⟨ns, hns⟩ := dig_iD n2
  have hll : line.length = 7 := n2.1
  have hcl : dCut (.lst (iD line)) none (some (d4 : Int)) = some (.lst ((ns.take d4).map nD)) := by
    have h1 := cutL_pre (e := D.int) (xs := line) d4
    rw [show (iD line) = line.map D.int from rfl, h1, hns, ← List.map_take, List.map_map]
    rfl
  obtain ⟨ys, y1, y2, y3⟩ := e_lcE (c := [some (.fz (.scr (iD xs))), some (.fz (alD al)), some (.fz (.lst (iD row))), some (.fz (nD v)), some (.fz (.lst (rs.map rD))), some (.fz (gD A al v rs)), some (.fz (.lst (ps.map pD))), some (.fz (.lst ((forms rs ps).map fD))), some (.fz (.lst (iD line))), none, none, none, none, none, none, none, none, none, none, none, none, none]) (gi := gIt (gCut (gVar 8) (fun _ => some none) (gPart (g2 dIx (gLook 2) (gC (.int 4)))))) (f := fName 20) (ge := gFn (m__law_symbol A) (VL.gCons (gVar 20) (VL.gCons (gVar 1) (VL.gCons (gVar 3) VL.gNil)))) (vs := [20]) (e := nD) (h := Sy.D) (S := fun s => okSy al v s = true) (xs := ns.take d4) (e_items (e_cut rfl rfl (e_part (e_2 rfl rfl q4)) hcl) rfl) (by rw [List.length_take]; omega) (fun d _ => by
    obtain ⟨s, h1, h2⟩ := symbol_run A d al v al0 (by omega) hv0
    exact ⟨_, s, rfl, e_fn (ds := [nD d, alD al, nD v]) rfl h1, h2⟩)
  have hyl : ys.length ≤ 7 := by rw [y2, List.length_take]; omega
  refine wp_seq (wp_set (d := fD ys) (e_call (e_cons (e_lst y1) rfl) rfl) ?_)
  -- the forms
  have hmin : fMin [.int ((forms rs ps).length : Nat), .int 7] = some (.int ((min (forms rs ps).length 7 : Nat) : Int)) := by
    show some (D.int (if (7 : Int) < ((forms rs ps).length : Nat) then 7 else ((forms rs ps).length : Nat))) = _
    congr 2
    split <;> omega
  obtain ⟨j, hj, hje⟩ : ∃ j : Nat, j < min (forms rs ps).length 7 ∧ (d2 : Int) % ((min (forms rs ps).length 7 : Nat) : Int) = (j : Int) := ⟨d2 % min (forms rs ps).length 7, Nat.mod_lt _ (by omega), rfl⟩
  have hj2 : j < (forms rs ps).length := by omega
  have hfj := List.getElem_mem hj2
  have hxj : (forms rs ps)[j]? = some (forms rs ps)[j] := List.getElem?_eq_getElem hj2
  generalize (forms rs ps)[j] = fj at hfj hxj
  let base : List (Option Cell) := [some (.fz (.scr (iD xs))), some (.fz (alD al)), some (.fz (.lst (iD row))), some (.fz (nD v)), some (.fz (.lst (rs.map rD))), some (.fz (gD A al v rs)), some (.fz (.lst (ps.map pD))), some (.fz (.lst ((forms rs ps).map fD))), some (.fz (.lst (iD line))), some (.fz (fD ys))]
  refine wp_seq (wp_for (ds := [fj, ys].map fD) (e_items (d := .lst ([fj, ys].map fD)) (e_lst (e_ln (e_cons (e_2 rfl (e_2 (e_call (e_cons (e_2 rfl rfl q2) rfl) rfl) (e_call (e_cons (e_lenM (e := fD) (xs := forms rs ps) rfl) (e_cons rfl rfl)) hmin) (by rw [d_mod (by omega), hje])) (ix_map rfl hxj)) (e_cons rfl rfl)) (by show 2 ≤ sizeLine; omega))) rfl) ?_)
  refine wpl_all (fun _ c => ∃ y10, c = base ++ [y10, none, none, none, none, none, none, none, none, none, none, none]) ⟨none, rfl⟩ ?_ ?_
  · rintro done x rest c q ⟨y10, rfl⟩
    have hxl : x.length ≤ 40001 := by
      have : x ∈ [fj, ys] := by rw [q]; simp
      simp at this
      rcases this with rfl | rfl
      · exact hsh2 _ hfj
      · omega
    refine ⟨_, rfl, ?_⟩
    exact wp_iff (e_not (a := true) (e_tru (e_fn (ds := [gD A al v rs, .lst (rs.map rD), fD x, .int (d6 : Int)]) (e_cons rfl (e_cons rfl (e_cons rfl (e_cons (e_2 rfl rfl q6) rfl)))) (form_told_run A al v rs x d6 fin.sz hxl)) rfl)) (wp_next ⟨_, rfl⟩)
  rintro c ⟨y10, rfl⟩
  have xw : ∀ c : VL.Env, gLook 7 c = some (.lst ((forms rs ps).map fD)) → VL.g2 dIx (gLook 7) (VL.g2 dSub (gCall fLen (VL.gCons (gLook 7) VL.gNil)) (gC (.int 1))) c = some (fD f) := fun c h => by
    refine e_2 h (e_2 (e_lenM (e := fD) (xs := forms rs ps) h) rfl rfl) (ix_at (ds := (forms rs ps).map fD) (k := pre.length) rfl ?_ _ ?_)
    · rw [hpf]; simp
    · rw [hpf]; simp
  obtain ⟨goal, g1, g2'⟩ := e_show (j := 21) (c := base ++ [y10, none, none, none, none, none, none, none, none, none, none, none]) (f := f) (hWo f hfm) (by have := hsh2 f hfm; omega) (xw _ rfl) (fun d => ⟨_, rfl, rfl⟩)
  refine wp_seq (wp_set (d := alD goal) g1 ?_)
  have hfl := hsh2 f hfm
  have hb := hbeg goal (by omega) fin.sz (by omega) p4
  refine wp_seq (wp_iff (e_not (a := true) (e_tru (e_fn (ds := [gD A al v rs, .lst (ps.map pD), .lst ((forms rs ps).map fD), alD goal]) rfl hb) rfl)) (wp_next ?_))
  -- the rows that are tried
  obtain ⟨t, ht, hte⟩ : ∃ t : Nat, t < ps.length ∧ (d3 : Int) % ((ps.length : Nat) : Int) = (t : Int) := ⟨d3 % ps.length, Nat.mod_lt _ hp0, rfl⟩
  have h3t : ∀ c : VL.Env, gLook 2 c = some (.lst (iD row)) → gLook 6 c = some (.lst (ps.map pD)) → VL.g2 dMod (gCall fInt (VL.gCons (VL.g2 dIx (gLook 2) (gC (.int 3))) VL.gNil)) (gCall fLen (VL.gCons (gLook 6) VL.gNil)) c = some (nD t) := fun c h1 h2 => e_2 (e_call (e_cons (e_2 h1 rfl q3) rfl) rfl) (e_lenM (e := pD) (xs := ps) h2) (by rw [d_mod (by omega), hte])
  refine wp_seq (wp_set (d := .lst ((ps.take t).map pD)) (e_cut rfl rfl (e_part (h3t _ rfl rfl)) (cutL_pre t)) ?_)
  have hpt : dIx (.lst (ps.map pD)) (nD t) = some (pD ps[t]) := ix_map rfl (List.getElem?_eq_getElem ht)
  let pLD : List Pr → D := fun q => .lst (q.map pD)
  refine wp_seq (wp_asgN (ds := [ps, ps.take t, [], ps ++ [ps[t]]].map pLD) (e_ln (e_cons rfl (e_cons rfl (e_cons rfl (e_cons (e_2 (y := .lst ([ps[t]].map pD)) rfl (e_lst (e_ln (e_cons (e_2 rfl (h3t _ rfl rfl) hpt) rfl) (by show 1 ≤ sizeLine; omega))) (add_lst (by simp; omega))) rfl)))) (by show 4 ≤ sizeLine; omega)) ?_)
  obtain ⟨stray, s1, s2⟩ := e_draw A (c := base ++ [y10, some (.fz (alD goal)), some (.fz (.lst ((ps.take t).map pD))), some (.own ([ps, ps.take t, [], ps ++ [ps[t]]].map pLD)), none, none, none, none, none, none, none, none]) (xs := xs) (k := 18) (sz := (List.replicate 6 [24, 7]).flatten) (ge := gC (.int 18)) (gs := g2 dMul (gL (gLen (VL.gCons (gC (.int 24)) (VL.gCons (gC (.int 7)) VL.gNil)))) (gC (.int 6))) (by decide) rfl rfl (e_2 (x := .lst (iD [24, 7])) (e_lst (e_ln rfl (by show 2 ≤ sizeLine; omega))) rfl (mul_iD [24, 7] 6 (by decide) (by decide))) (by simp) (by simp)
  refine wp_seq (wp_set (d := .lst (iD stray)) s1 ?_)
  obtain ⟨zs, z1, z2, _⟩ := e_lcE (c := base ++ [y10, some (.fz (alD goal)), some (.fz (.lst ((ps.take t).map pD))), some (.own ([ps, ps.take t, [], ps ++ [ps[t]]].map pLD)), some (.fz (.lst (iD stray))), none, none, none, none, none, none, none]) (gi := gRg1 (VL.gCons (gC (.int 6)) VL.gNil)) (f := fName 15) (ge := VL.gTup (VL.gCons (g2 dMod (gCall fInt (VL.gCons (g2 dIx (gLook 14) (g2 dMul (gC (.int 2)) (gLook 15))) VL.gNil)) (g2 dAdd (gCall fLen (VL.gCons (gLook 4) VL.gNil)) (gC (.int 1)))) (VL.gCons (g2 dSub (g2 dIx (gLook 14) (g2 dAdd (g2 dMul (gC (.int 2)) (gLook 15)) (gC (.int 1)))) (gC (.int 1))) VL.gNil))) (vs := [15]) (e := nD) (h := pD) (S := fun _ => True) (xs := List.range 6) (by rw [← rg_nD]; exact e_rg1 (n := 6) rfl (by decide) (by decide)) (by simp; omega) (fun k hk => by
    have hk2 : k < 6 := List.mem_range.mp hk
    obtain ⟨a, qa, la⟩ := row_at s2 (2 * k) ((show ∀ k, k < 6 → (List.replicate 6 [(24 : Int), 7]).flatten[2 * k]? = some 24 by decide) k hk2)
    obtain ⟨b, qb, lb⟩ := row_at s2 (2 * k + 1) ((show ∀ k, k < 6 → (List.replicate 6 [(24 : Int), 7]).flatten[2 * k + 1]? = some 7 by decide) k hk2)
    have h2k : ∀ c : VL.Env, gLook 15 c = some (nD k) → VL.g2 dMul (gC (.int 2)) (gLook 15) c = some (nD (2 * k)) := fun c h => e_2 rfl h (by rw [show nD k = D.int (k : Nat) from rfl, d_mul (cmul_l (by decide) (by decide))]; rfl)
    exact ⟨_, ((a : Int) % ((rs.length : Nat) + 1), (b : Int) - 1), rfl, e_pr (e_2 (e_call (e_cons (e_2 rfl (h2k _ rfl) qa) rfl) rfl) (e_2 (e_lenM (e := rD) (xs := rs) rfl) rfl rfl) (d_mod (by omega))) (e_2 (e_2 rfl (e_2 (h2k _ rfl) rfl rfl) qb) rfl rfl), trivial⟩)
  have hzl : zs.length = 6 := by rw [z2]; rfl
  refine wp_seq (wp_append (ds := [ps, ps.take t, [], ps ++ [ps[t]]].map pLD) (d := pLD (ps.take 1 ++ zs)) rfl (e_2 (e_cut (d := .lst (ps.map pD)) (lo := none) (hi := some ((1 : Nat) : Int)) rfl rfl (e_part rfl) (cutL_pre 1)) (e_lst z1) (add_lst (by simp; omega))) (by show 4 < sizeLine; omega) ?_)
  -- the changed ones
  refine wp_seq (wp_for (ds := rgD 0 4) (e_rg1 (n := 4) rfl (by decide) (by decide)) ?_)
  refine wpl_rg (fun k c => ∃ (ts : List (List Pr)) (y15 y16 : Option Cell), (∀ q ∈ ts, q.length ≤ 110) ∧ ts.length = 5 + k ∧ c = base ++ [y10, some (.fz (alD goal)), some (.fz (.lst ((ps.take t).map pD))), some (.own (ts.map pLD)), some (.fz (.lst (iD stray))), y15, y16, none, none, none, none, none]) ⟨[ps, ps.take t, [], ps ++ [ps[t]], ps.take 1 ++ zs], none, none, ?_, rfl, rfl⟩ ?_ ?_
  · intro q hq
    simp at hq
    rcases hq with rfl | rfl | rfl | rfl | rfl
    · omega
    · rw [List.length_take]; omega
    · simp
    · simp; omega
    · rw [List.length_append, List.length_take]; omega
  · rintro k c hk ⟨ts, y15, y16, hts, htl, rfl⟩
    refine ⟨_, rfl, ?_⟩
    obtain ⟨ch, c1, c2⟩ := e_draw A (c := base ++ [y10, some (.fz (alD goal)), some (.fz (.lst ((ps.take t).map pD))), some (.own (ts.map pLD)), some (.fz (.lst (iD stray))), some (.fz (nD k)), y16, none, none, none, none, none]) (xs := xs) (k := 14 + k) (sz := szC) (ge := g2 dAdd (gC (.int 14)) (gVar 15)) (gs := gL (gLen (VL.gCons (gC (.int 13)) (VL.gCons (gC (.int 48)) (VL.gCons (gC (.int 24)) (VL.gCons (gC (.int 36)) (VL.gCons (g2 dPow (gC (.int 10)) (gC (.int 20))) VL.gNil))))))) (by omega) rfl rfl (e_lst (e_ln (e_cons rfl (e_cons rfl (e_cons rfl (e_cons rfl (e_cons (e_2 rfl rfl (d_pow ⟨by decide, by decide, by decide⟩)) rfl))))) (by show 5 ≤ sizeLine; omega))) (by simp) (by simp)
    refine wp_seq (wp_set (d := .lst (iD ch)) c1 ?_)
    obtain ⟨qs, k1, k2⟩ := changed_row_run A rs ps ch fin c2 p2 (by omega) p4
    refine wp_append (ds := ts.map pLD) (d := pLD qs) rfl (e_fn (ds := [.lst (rs.map rD), .lst (ps.map pD), .lst (iD ch)]) rfl k1) (by simp; omega) ?_
    refine ⟨ts ++ [qs], _, _, fun q hq => ?_, by simp [htl]; omega, by rw [List.map_append]; rfl⟩
    rcases List.mem_append.mp hq with h | h
    · exact hts q h
    · simp only [List.mem_singleton] at h
      rw [h]; omega
  rintro c ⟨ts, y15, y16, hts, htl, rfl⟩
  obtain ⟨c0, cs0, hc0⟩ : ∃ c0 cs0, al = c0 :: cs0 := by
    cases al with
    | nil => simp at al0
    | cons a b => exact ⟨a, b, rfl⟩
  have hfirst : dIx (alD al) (.int 0) = some (alD [c0]) := by
    rw [hc0]
    exact ix_al (x := c0 :: cs0) (k := 0) (by rw [← hc0]; omega) rfl
  have T1 : ∀ (q : List Pr) (s : Nat), q.length ≤ 110 → m__law_row_told A [gD A al v rs, .lst (rs.map rD), .lst (q.map pD), nD s] = some (.val (.bl true)) := fun q s hq => row_told_run A al v rs q s fin.sz (by omega)
  have T2 : ∀ (q : List Pr) (s : Nat), q.length ≤ 110 → m__law_texts_told A [gD A al v rs, .lst (rs.map rD), .lst (q.map pD), .lst ((forms rs ps).map fD), alD [c0], nD s] = some (.val (.bl true)) := fun q s hq => texts_told_run A al v rs q (forms rs ps) pre f c0 s fin.sz okv (by omega) hpf (hWo f hfm) hfl
  refine wp_seq (wp_for (ds := rgD 0 ts.length) (e_rgM (e := pLD) (xs := ts) rfl (by omega)) ?_)
  refine wpl_rg (fun k c => ∃ y15, c = base ++ [y10, some (.fz (alD goal)), some (.fz (.lst ((ps.take t).map pD))), some (.own (ts.map pLD)), some (.fz (.lst (iD stray))), y15, y16, none, none, none, none, none]) ⟨y15, rfl⟩ ?_ ?_
  · rintro k c hk ⟨y15, rfl⟩
    refine ⟨_, rfl, ?_⟩
    have hkx : dIx (.lst (ts.map pLD)) (nD k) = some (pLD ts[k]) := ix_map rfl (List.getElem?_eq_getElem hk)
    have hkl : ts[k].length ≤ 110 := hts _ (List.getElem_mem _)
    generalize ts[k] = q at hkx hkl
    have hsh : dMod (.int ((d5 : Int) + (k : Int))) (.int 3) = some (nD ((d5 + k) % 3)) := by rw [d_mod (by decide)]; rfl
    refine wp_seq (wp_iff (e_not (a := true) (e_tru (e_fn (ds := [gD A al v rs, .lst (rs.map rD), .lst (q.map pD), nD ((d5 + k) % 3)]) (e_cons rfl (e_cons rfl (e_cons (e_2 rfl rfl hkx) (e_cons (e_2 (e_call (e_cons (e_2 (e_2 rfl rfl q5) rfl rfl) rfl) rfl) rfl hsh) rfl)))) (T1 q _ hkl)) rfl)) (wp_next ?_))
    exact wp_iff (e_not (a := true) (e_tru (e_fn (ds := [gD A al v rs, .lst (rs.map rD), .lst (q.map pD), .lst ((forms rs ps).map fD), alD [c0], nD ((d5 + k) % 3)]) (e_cons rfl (e_cons rfl (e_cons (e_2 rfl rfl hkx) (e_cons rfl (e_cons (e_2 rfl rfl hfirst) (e_cons (e_2 (e_call (e_cons (e_2 (e_2 rfl rfl q5) rfl rfl) rfl) rfl) rfl hsh) rfl)))))) (T2 q _ hkl)) rfl)) (wp_next ⟨_, rfl⟩)
  rintro c ⟨y15, rfl⟩
  -- the same rules in another order
  let rs' : List Rule := rs.drop 1 ++ rs.take 1
  have hmem' : ∀ r, r ∈ rs' ↔ r ∈ rs := by
    intro r
    show r ∈ rs.drop 1 ++ rs.take 1 ↔ _
    rw [List.mem_append, or_comm, ← List.mem_append, List.take_append_drop]
  have hlen' : rs'.length ≤ 20 := by show (rs.drop 1 ++ rs.take 1).length ≤ 20; simp; omega
  have hD' : Drawn al v rs' := fun r hr => hD r ((hmem' r).mp hr)
  obtain ⟨fin', okv'⟩ := drawn_facts hv hD' hlen' (by obtain ⟨r, h1, h2⟩ := hst; exact ⟨r, (hmem' r).mpr h1, h2⟩)
  refine wp_seq (wp_set (d := .lst (rs'.map rD)) (e_2 (e_cut (d := .lst (rs.map rD)) (lo := some ((1 : Nat) : Int)) (hi := none) rfl (e_part rfl) rfl (cutL_suf 1)) (e_cut (d := .lst (rs.map rD)) (lo := none) (hi := some ((1 : Nat) : Int)) rfl rfl (e_part rfl) (cutL_pre 1)) (add_lst (by simp; omega))) ?_)
  have hG' := Grammar_run A al v rs' hia (by omega) (fun r hr => hok r ((hmem' r).mp hr)) (by omega)
  refine wp_seq (wp_set (d := gD A al v rs') (e_make (ds := [alD al, nD v, .lst (rs'.map rD)]) rfl hG') ?_)
  have T1' := row_told_run A al v rs' ps 2 fin'.sz (by omega)
  have T2' := texts_told_run A al v rs' ps (forms rs ps) pre f c0 2 fin'.sz okv' (by omega) hpf (hWo f hfm) hfl
  refine wp_seq (wp_iff (e_not (a := true) (e_tru (e_fn (ds := [gD A al v rs', .lst (rs'.map rD), .lst (ps.map pD), nD 2]) rfl T1') rfl)) (wp_next ?_))
  refine wp_seq (wp_iff (e_not (a := true) (e_tru (e_fn (ds := [gD A al v rs', .lst (rs'.map rD), .lst (ps.map pD), .lst ((forms rs ps).map fD), alD [c0], nD 2]) (e_cons rfl (e_cons rfl (e_cons rfl (e_cons rfl (e_cons (e_2 rfl rfl hfirst) (e_cons rfl rfl)))))) T2') rfl)) (wp_next ?_))
  exact wp_ret (d := .bl (true && true)) (e_bl (e_and (e_B (e_fn (ds := [gD A al v rs, .lst (rs.map rD), .lst (ps.map pD), nD 2]) rfl (T1 ps 2 (by omega)))) fun _ => e_B (e_fn (ds := [gD A al v rs, .lst (rs.map rD), .lst (ps.map pD), .lst ((forms rs ps).map fD), alD [c0], nD 1]) (e_cons rfl (e_cons rfl (e_cons rfl (e_cons rfl (e_cons (e_2 rfl rfl hfirst) (e_cons rfl rfl)))))) (T2 ps 1 (by omega))))) rfl
end K40
end

section
namespace K40
open PySem PySem.Spec PyProof.Rows L2 VL

/-- what the top has written -/
structure Txt (K : PySem.W.Frag) (mg : Str → Option Value) (A : Ad) : Prop where

  b_ValueError : mg "ValueError" = none

  b_bool : mg "bool" = none

  b_enumerate : mg "enumerate" = none

  b_int : mg "int" = none

  b_isinstance : mg "isinstance" = none

  b_len : mg "len" = none

  b_list : mg "list" = none

  b_max : mg "max" = none

  b_min : mg "min" = none

  b_range : mg "range" = none

  b_str : mg "str" = none

  b_tuple : mg "tuple" = none

  k_LETTERS : ∃ u, mg "LETTERS" = some u ∧ RelV (.str "abcdefghijklmnopqrstuvwxyz") u

  c_Grammar : Cls K A.C_Grammar

  n_Grammar_alphabet : NoAttr K A.C_Grammar "alphabet"

  n_Grammar_variables : NoAttr K A.C_Grammar "variables"

  n_Grammar_rules : NoAttr K A.C_Grammar "rules"

  g_BadRow : mg "BadRow" = some (.ref A.C_BadRow)

  e_BadRow : PySem.W.exmOne K (.ref A.C_BadRow) (.ref A.C_BadRow) = some true

  y_BadRow : IsxC K A.C_BadRow

  x_BadRow : XfC K A.C_BadRow

  xn_BadRow_index : PySem.W.findIn K (.ref A.C_BadRow) "index" = some none

  g_BadForm : mg "BadForm" = some (.ref A.C_BadForm)

  g_BadRule : mg "BadRule" = some (.ref A.C_BadRule)

  g_BadRun : mg "BadRun" = some (.ref A.C_BadRun)

  g_LeashError : mg "LeashError" = some (.ref A.C_LeashError)

  g_NotOfKind : mg "NotOfKind" = some (.ref A.C_NotOfKind)

  q_BadRow_BadForm : PySem.W.kitOne K (.ref A.C_BadRow) (.ref A.C_BadForm) = some false

  q_BadRow_BadRow : PySem.W.kitOne K (.ref A.C_BadRow) (.ref A.C_BadRow) = some true

  q_BadRow_BadRule : PySem.W.kitOne K (.ref A.C_BadRow) (.ref A.C_BadRule) = some false

  q_BadRow_BadRun : PySem.W.kitOne K (.ref A.C_BadRow) (.ref A.C_BadRun) = some false

  q_BadRow_NotOfKind : PySem.W.kitOne K (.ref A.C_BadRow) (.ref A.C_NotOfKind) = some false

  q_BadRow_ValueError : PySem.W.kitOne K (.ref A.C_BadRow) (.type "ValueError") = some true

  x_BadRow_LeashError : PySem.W.exmOne K (.ref A.C_BadRow) (.ref A.C_LeashError) = some true

theorem sc_is_alphabet : FnScope N_is_alphabet ["value"] (defScope s_is_alphabet) := ⟨rfl, rfl, rfl, by decide +kernel, rfl, by decide +kernel, by decide +kernel⟩

theorem sc_check_alphabet : FnScope N_check_alphabet ["alphabet"] (defScope s_check_alphabet) := ⟨rfl, rfl, rfl, by decide +kernel, rfl, by decide +kernel, by decide +kernel⟩

theorem sc_is_whole : FnScope N_is_whole ["value"] (defScope s_is_whole) := ⟨rfl, rfl, rfl, by decide +kernel, rfl, by decide +kernel, by decide +kernel⟩

theorem sc_is_symbol : FnScope N_is_symbol ["symbol", "alphabet", "variables"] (defScope s_is_symbol) := ⟨rfl, rfl, rfl, by decide +kernel, rfl, by decide +kernel, by decide +kernel⟩

theorem sc_is_variable : FnScope N_is_variable ["symbol"] (defScope s_is_variable) := ⟨rfl, rfl, rfl, by decide +kernel, rfl, by decide +kernel, by decide +kernel⟩

theorem sc_is_rule : FnScope N_is_rule ["left", "right", "alphabet", "variables"] (defScope s_is_rule) := ⟨rfl, rfl, rfl, by decide +kernel, rfl, by decide +kernel, by decide +kernel⟩

theorem sc_Grammar_init : FnScope N_Grammar_init ["self", "alphabet", "variables", "rules"] (defScope s_Grammar_init) := ⟨rfl, rfl, rfl, by decide +kernel, rfl, by decide +kernel, by decide +kernel⟩

theorem sc__law_digits : FnScope N__law_digits ["cell", "sizes"] (defScope s__law_digits) := ⟨rfl, rfl, rfl, by decide +kernel, rfl, by decide +kernel, by decide +kernel⟩

theorem sc__law_alphabet : FnScope N__law_alphabet ["cell"] (defScope s__law_alphabet) := ⟨rfl, rfl, rfl, by decide +kernel, rfl, by decide +kernel, by decide +kernel⟩

theorem sc_rewritten : FnScope N_rewritten ["grammar", "form", "number", "place"] (defScope s_rewritten) := ⟨rfl, rfl, rfl, by decide +kernel, rfl, by decide +kernel, by decide +kernel⟩

theorem sc_forms_until : FnScope N_forms_until ["grammar", "row"] (defScope s_forms_until) := ⟨rfl, rfl, rfl, by decide +kernel, rfl, by decide +kernel, by decide +kernel⟩

theorem sc_forms_along : FnScope N_forms_along ["grammar", "row"] (defScope s_forms_along) := ⟨rfl, rfl, rfl, by decide +kernel, rfl, by decide +kernel, by decide +kernel⟩

theorem sc_derived : FnScope N_derived ["grammar", "row"] (defScope s_derived) := ⟨rfl, rfl, rfl, by decide +kernel, rfl, by decide +kernel, by decide +kernel⟩

theorem sc__law_asked : FnScope N__law_asked ["which", "grammar", "handed"] (defScope s__law_asked) := ⟨rfl, rfl, rfl, by decide +kernel, rfl, by decide +kernel, by decide +kernel⟩

theorem sc__law_whole : FnScope N__law_whole ["value"] (defScope s__law_whole) := ⟨rfl, rfl, rfl, by decide +kernel, rfl, by decide +kernel, by decide +kernel⟩

theorem sc__law_side_alike : FnScope N__law_side_alike ["told", "side"] (defScope s__law_side_alike) := ⟨rfl, rfl, rfl, by decide +kernel, rfl, by decide +kernel, by decide +kernel⟩

theorem sc__law_forms_alike : FnScope N__law_forms_alike ["told", "forms"] (defScope s__law_forms_alike) := ⟨rfl, rfl, rfl, by decide +kernel, rfl, by decide +kernel, by decide +kernel⟩

theorem sc_is_derivation : FnScope N_is_derivation ["grammar", "text", "row"] (defScope s_is_derivation) := ⟨rfl, rfl, rfl, by decide +kernel, rfl, by decide +kernel, by decide +kernel⟩

theorem sc__law_beginnings_told : FnScope N__law_beginnings_told ["grammar", "pairs", "whole", "goal"] (defScope s__law_beginnings_told) := ⟨rfl, rfl, rfl, by decide +kernel, rfl, by decide +kernel, by decide +kernel⟩

theorem sc__law_cell : FnScope N__law_cell ["script", "k"] (defScope s__law_cell) := ⟨rfl, rfl, rfl, by decide +kernel, rfl, by decide +kernel, by decide +kernel⟩

theorem sc__law_rewrite : FnScope N__law_rewrite ["rules", "form", "number", "place"] (defScope s__law_rewrite) := ⟨rfl, rfl, rfl, by decide +kernel, rfl, by decide +kernel, by decide +kernel⟩

theorem sc__law_follow : FnScope N__law_follow ["rules", "pairs"] (defScope s__law_follow) := ⟨rfl, rfl, rfl, by decide +kernel, rfl, by decide +kernel, by decide +kernel⟩

theorem sc__law_changed_row : FnScope N__law_changed_row ["rules", "pairs", "row"] (defScope s__law_changed_row) := ⟨rfl, rfl, rfl, by decide +kernel, rfl, by decide +kernel, by decide +kernel⟩

theorem sc__law_choices : FnScope N__law_choices ["rules", "form"] (defScope s__law_choices) := ⟨rfl, rfl, rfl, by decide +kernel, rfl, by decide +kernel, by decide +kernel⟩

theorem sc__law_spots : FnScope N__law_spots ["form"] (defScope s__law_spots) := ⟨rfl, rfl, rfl, by decide +kernel, rfl, by decide +kernel, by decide +kernel⟩

theorem sc__law_closes : FnScope N__law_closes ["rule"] (defScope s__law_closes) := ⟨rfl, rfl, rfl, by decide +kernel, rfl, by decide +kernel, by decide +kernel⟩

theorem sc__law_drawn_row : FnScope N__law_drawn_row ["script", "rules"] (defScope s__law_drawn_row) := ⟨rfl, rfl, rfl, by decide +kernel, rfl, by decide +kernel, by decide +kernel⟩

theorem sc__law_form_told : FnScope N__law_form_told ["grammar", "rules", "form", "digit"] (defScope s__law_form_told) := ⟨rfl, rfl, rfl, by decide +kernel, rfl, by decide +kernel, by decide +kernel⟩

theorem sc__law_handed : FnScope N__law_handed ["pairs", "shape"] (defScope s__law_handed) := ⟨rfl, rfl, rfl, by decide +kernel, rfl, by decide +kernel, by decide +kernel⟩

theorem sc__law_row_told : FnScope N__law_row_told ["grammar", "rules", "pairs", "shape"] (defScope s__law_row_told) := ⟨rfl, rfl, rfl, by decide +kernel, rfl, by decide +kernel, by decide +kernel⟩

theorem sc__law_closing_rules : FnScope N__law_closing_rules ["cell", "alphabet", "variables", "lost"] (defScope s__law_closing_rules) := ⟨rfl, rfl, rfl, by decide +kernel, rfl, by decide +kernel, by decide +kernel⟩

theorem sc__law_symbol : FnScope N__law_symbol ["digit", "alphabet", "variables"] (defScope s__law_symbol) := ⟨rfl, rfl, rfl, by decide +kernel, rfl, by decide +kernel, by decide +kernel⟩

theorem sc__law_grown_rules : FnScope N__law_grown_rules ["script", "alphabet", "variables", "many"] (defScope s__law_grown_rules) := ⟨rfl, rfl, rfl, by decide +kernel, rfl, by decide +kernel, by decide +kernel⟩

theorem sc__law_rules : FnScope N__law_rules ["script", "alphabet", "variables"] (defScope s__law_rules) := ⟨rfl, rfl, rfl, by decide +kernel, rfl, by decide +kernel, by decide +kernel⟩

theorem sc__law_texts_told : FnScope N__law_texts_told ["grammar", "rules", "pairs", "whole", "first", "shape"] (defScope s__law_texts_told) := ⟨rfl, rfl, rfl, by decide +kernel, rfl, by decide +kernel, by decide +kernel⟩

theorem sc_law : FnScope N_law ["script"] (defScope s_law) := ⟨rfl, rfl, rfl, by decide +kernel, rfl, by decide +kernel, by decide +kernel⟩

section
variable {P : Program} {w : World} {K : PySem.W.Frag} {mg : Str → Option Value} {base : Heap} {A : Ad}

theorem ok_is_alphabet (T : Txt K mg A)  {f : Addr} {fd : FuncData} (F : Fun K "is_alphabet" "is_alphabet" s_is_alphabet f fd) (hm : mg "is_alphabet" = some (.ref f)) (b : Binds K fd ["value"] []) :
    CalX P w K mg base CX0 1 "is_alphabet" (spP K (m_is_alphabet A)) :=
  ⟨f, fd, ["value"], F.ok sc_is_alphabet (spP_len fun ds r h => (mOf_len h).1) (fun cdv A' outer s H vs Q E hr h => by
    refine ⟨_, (pss_cons (ps_if (pt_not (pt_chain op_leU op_leU pe_int (pe_callB (r := rLenU K) call_lenU (by rfl) T.b_len PySem.boot_len (pa_cons (pv 0) pa_nil)) pe_int)) (pss_one (ps_ret pe_bl)) pss_nil)
 (pss_cons (ps_for PassesOwn.never rfl (pi_range1 (by rfl) T.b_range (pa_cons (pe_callB (r := rLenU K) call_lenU (by rfl) T.b_len PySem.boot_len (pa_cons (pv 0) pa_nil)) pa_nil)) (pg_name (i := 1) sc_is_alphabet.nd rfl (Or.inl rfl)) (pss_cons (ps_if (pt_cmpR (r := rNotInU K) op_notInU (pe_ix (r := rIx K) ix_seq (pv 0) (pv 1) (fun _ _ => rfl)) (pe_gc (by rfl) T.k_LETTERS) (by with_unfolding_all rfl)) (pss_one (ps_ret pe_bl)) pss_nil)
 (pss_one (ps_if (PW.pt (pw_and (pt_cmpR op_gtU (pv 1) pe_int (nomark _)) (pw_and1 (pt_cmpR op_geU (pe_ix (r := rIx K) ix_seq (pv 0) (pe_op op_sub (pv 1) pe_int) (fun _ _ => rfl)) (pe_ix (r := rIx K) ix_seq (pv 0) (pv 1) (fun _ _ => rfl)) (nomark _))))) (pss_one (ps_ret pe_bl)) pss_nil))))
 (pss_one (ps_ret pe_bl)))), run_def (E := E) rfl (fun W0 => ?_) h⟩
    exact (vs_seq (vs_if (vb_not (vb_test (b := false) (vt_chain (b1 := false) (b2 := false) (b3 := false) ros_cmp ros_cmp vt_int (vt_cbS (b1 := false) rcs_len (va_cons (vt_look 0) va_nil)) vt_int))) (vs_ret vt_bl) vs_next)
 (vs_seq (vs_for (vi_rg1 (b := false) (va_cons (vt_cbS (b1 := false) rcs_len (va_cons (vt_look 0) va_nil)) va_nil)) (vg_name 1) (vs_seq (vs_if (vb_test (b := false) (vt_opS (b1 := false) (b2 := false) ros_notIn (vt_ixv (i := 0) (b2 := false) (vt_look 1)) vt_str)) (vs_ret vt_bl) vs_next)
 (vs_if (vb_and (vb_test (b := false) (vt_opS (b1 := false) (b2 := false) ros_cmp (vt_look 1) vt_int)) (vb_test (b := false) (vt_opS (b1 := false) (b2 := false) ros_cmp (vt_ixv (i := 0) (b2 := false) (vt_opS (b1 := false) (b2 := false) ros_sub (vt_look 1) vt_int)) (vt_ixv (i := 0) (b2 := false) (vt_look 1))))) (vs_ret vt_bl) vs_next)))
 (vs_ret vt_bl)))), hm, F.kp, b⟩

theorem ok_check_alphabet (T : Txt K mg A) (c_is_alphabet : CalX P w K mg base CX0 1 "is_alphabet" (spP K (m_is_alphabet A))) {f : Addr} {fd : FuncData} (F : Fun K "check_alphabet" "check_alphabet" s_check_alphabet f fd) (hm : mg "check_alphabet" = some (.ref f)) (b : Binds K fd ["alphabet"] []) :
    CalX P w K mg base CX0 2 "check_alphabet" (spP K (m_check_alphabet A)) :=
  ⟨f, fd, ["alphabet"], F.ok sc_check_alphabet (spP_len fun ds r h => (mOf_len h).1) (fun cdv A' outer s H vs Q E hr h => by
    refine ⟨_, (pss_one (ps_if (pt_not (pt_truthK (K := K) rfl (pe_cx c_is_alphabet hr (by decide) pass0 (by rfl) (pa_cons (pv 0) pa_nil)) (fun _ => rfl))) (pss_one ps_never) pss_nil)), run_def (E := E) rfl (fun W0 => ?_) h⟩
    exact (vs_if (vb_not (vb_tru (b := false) (vt_call (va_cons (vt_look 0) va_nil)))) vs_never vs_next)), hm, F.kp, b⟩

theorem ok_is_whole (T : Txt K mg A)  {f : Addr} {fd : FuncData} (F : Fun K "is_whole" "is_whole" s_is_whole f fd) (hm : mg "is_whole" = some (.ref f)) (b : Binds K fd ["value"] []) :
    CalX P w K mg base CX0 1 "is_whole" (spP K (m_is_whole A)) :=
  ⟨f, fd, ["value"], F.ok sc_is_whole (spP_len fun ds r h => (mOf_len h).1) (fun cdv A' outer s H vs Q E hr h => by
    refine ⟨_, (pss_one (ps_ret (pe_and (pe_callB (r := rIsi K) call_isi (by rfl) T.b_isinstance (by decide +kernel) (pa_cons (pv 0) (pa_cons (pe_bltn (v := .ty "int") (u := .type "int") (by rfl) T.b_int (by decide +kernel) rfl) pa_nil))) (pe_one (pe_not (pe_callB (r := rIsi K) call_isi (by rfl) T.b_isinstance (by decide +kernel) (pa_cons (pv 0) (pa_cons (pe_bltn (v := .ty "bool") (u := .type "bool") (by rfl) T.b_bool (by decide +kernel) rfl) pa_nil)))))))), run_def (E := E) rfl (fun W0 => ?_) h⟩
    exact (vs_ret (vt_andV (b1 := false) (b2 := false) (vt_isi (n := "int") (b1 := false) (vt_look 0)) (vt_notV (b1 := false) (vt_isi (n := "bool") (b1 := false) (vt_look 0)))))), hm, F.kp, b⟩

theorem ok_is_symbol (T : Txt K mg A) (c_is_whole : CalX P w K mg base CX0 1 "is_whole" (spP K (m_is_whole A))) {f : Addr} {fd : FuncData} (F : Fun K "is_symbol" "is_symbol" s_is_symbol f fd) (hm : mg "is_symbol" = some (.ref f)) (b : Binds K fd ["symbol", "alphabet", "variables"] []) :
    CalX P w K mg base CX0 2 "is_symbol" (spP K (m_is_symbol A)) :=
  ⟨f, fd, ["symbol", "alphabet", "variables"], F.ok sc_is_symbol (spP_len fun ds r h => (mOf_len h).1) (fun cdv A' outer s H vs Q E hr h => by
    refine ⟨_, (pss_cons (ps_if (pt_truthK (K := K) rfl (pe_callB (r := rIsi K) call_isi (by rfl) T.b_isinstance (by decide +kernel) (pa_cons (pv 0) (pa_cons (pe_bltn (v := .ty "str") (u := .type "str") (by rfl) T.b_str (by decide +kernel) rfl) pa_nil))) (fun _ => rfl)) (pss_one (ps_ret (pe_and (pe_cmpR (r := rEqU K) (op_eqU hr.units) (pe_callB (r := rLenU K) call_lenU (by rfl) T.b_len PySem.boot_len (pa_cons (pv 0) pa_nil)) pe_int (nomark _)) (pe_one (pe_cmpR (r := rInU K) op_inU (pv 0) (pv 1) (by with_unfolding_all rfl)))))) pss_nil)
 (pss_one (ps_ret (pe_and (pe_cx c_is_whole hr (by decide) pass0 (by rfl) (pa_cons (pv 0) pa_nil)) (pe_one (pe_chain op_leU op_ltU pe_int (pv 0) (pv 2))))))), run_def (E := E) rfl (fun W0 => ?_) h⟩
    exact (vs_seq (vs_if (vb_tru (b := false) (vt_isi (n := "str") (b1 := false) (vt_look 0))) (vs_ret (vt_andV (b1 := false) (b2 := false) (vt_opS (b1 := false) (b2 := false) ros_eq (vt_cbS (b1 := false) rcs_len (va_cons (vt_look 0) va_nil)) vt_int) (vt_opS (b1 := false) (b2 := false) ros_in (vt_look 0) (vt_look 1)))) vs_next)
 (vs_ret (vt_andV (b1 := false) (b2 := false) (vt_call (va_cons (vt_look 0) va_nil)) (vt_chain (b1 := false) (b2 := false) (b3 := false) ros_cmp ros_cmp vt_int (vt_look 0) (vt_look 2)))))), hm, F.kp, b⟩

theorem ok_is_variable (T : Txt K mg A)  {f : Addr} {fd : FuncData} (F : Fun K "is_variable" "is_variable" s_is_variable f fd) (hm : mg "is_variable" = some (.ref f)) (b : Binds K fd ["symbol"] []) :
    CalX P w K mg base CX0 1 "is_variable" (spP K (m_is_variable A)) :=
  ⟨f, fd, ["symbol"], F.ok sc_is_variable (spP_len fun ds r h => (mOf_len h).1) (fun cdv A' outer s H vs Q E hr h => by
    refine ⟨_, (pss_one (ps_ret (pe_not (pe_callB (r := rIsi K) call_isi (by rfl) T.b_isinstance (by decide +kernel) (pa_cons (pv 0) (pa_cons (pe_bltn (v := .ty "str") (u := .type "str") (by rfl) T.b_str (by decide +kernel) rfl) pa_nil)))))), run_def (E := E) rfl (fun W0 => ?_) h⟩
    exact (vs_ret (vt_notV (b1 := false) (vt_isi (n := "str") (b1 := false) (vt_look 0))))), hm, F.kp, b⟩

theorem ok_is_rule (T : Txt K mg A) (c_is_symbol : CalX P w K mg base CX0 2 "is_symbol" (spP K (m_is_symbol A))) (c_is_variable : CalX P w K mg base CX0 1 "is_variable" (spP K (m_is_variable A))) {f : Addr} {fd : FuncData} (F : Fun K "is_rule" "is_rule" s_is_rule f fd) (hm : mg "is_rule" = some (.ref f)) (b : Binds K fd ["left", "right", "alphabet", "variables"] []) :
    CalX P w K mg base CX0 3 "is_rule" (spP K (m_is_rule A)) :=
  ⟨f, fd, ["left", "right", "alphabet", "variables"], F.ok sc_is_rule (spP_len fun ds r h => (mOf_len h).1) (fun cdv A' outer s H vs Q E hr h => by
    refine ⟨_, (pss_cons (ps_for PassesOwn.never rfl (pi_seqU (pe_op (r := rAddU K) op_addU (pv 0) (pv 1))) (pg_name (i := 4) sc_is_rule.nd rfl (Or.inl rfl)) (pss_one (ps_if (pt_not (pt_truthK (K := K) rfl (pe_cx c_is_symbol hr (by decide) pass0 (by rfl) (pa_cons (pv 4) (pa_cons (pv 2) (pa_cons (pv 3) pa_nil)))) (fun _ => rfl))) (pss_one (ps_ret pe_bl)) pss_nil)))
 (pss_cons (ps_for PassesOwn.never rfl (pi_seqU (pv 0)) (pg_name (i := 4) sc_is_rule.nd rfl (Or.inl rfl)) (pss_one (ps_if (pt_truthK (K := K) rfl (pe_cx c_is_variable hr (by decide) pass0 (by rfl) (pa_cons (pv 4) pa_nil)) (fun _ => rfl)) (pss_one (ps_ret pe_bl)) pss_nil)))
 (pss_one (ps_ret pe_bl)))), run_def (E := E) rfl (fun W0 => ?_) h⟩
    exact (vs_seq (vs_for (vi_seqU (vt_op ro_add (vt_var 0) (vt_var 1))) (vg_name 4) (vs_if (vb_not (vb_tru (b := false) (vt_call (va_cons (vt_look 4) (va_cons (vt_look 2) (va_cons (vt_look 3) va_nil)))))) (vs_ret vt_bl) vs_next))
 (vs_seq (vs_for (vi_seqU (vt_var 0)) (vg_name 4) (vs_if (vb_tru (b := false) (vt_call (va_cons (vt_look 4) va_nil))) (vs_ret vt_bl) vs_next))
 (vs_ret vt_bl)))), hm, F.kp, b⟩

theorem ok_Grammar_init (T : Txt K mg A) (c_check_alphabet : CalX P w K mg base CX0 2 "check_alphabet" (spP K (m_check_alphabet A))) (c_is_rule : CalX P w K mg base CX0 3 "is_rule" (spP K (m_is_rule A))) {f : Addr} {fd : FuncData} (M : Mk K A.C_Grammar f) (F : Fun K "__init__" "Grammar.__init__" s_Grammar_init f fd) (hm : mg "Grammar" = some (.ref A.C_Grammar)) (b : Binds K fd ["self", "alphabet", "variables", "rules"] []) :
    MakX P w K mg base CX0 4 "Grammar" A.C_Grammar (spI K A.C_Grammar (i_Grammar A)) :=
  ⟨f, fd, _, M, F.ok sc_Grammar_init (spI_len fun ds r h => iOf_len h) (fun cdv A' outer s H vs Q E hr h => by
    refine ⟨_, (pss_cons (ps_expr (pe_cx c_check_alphabet hr (by decide) pass0 (by rfl) (pa_cons (pv 1) pa_nil)))
 (pss_cons (ps_if (pt_cmpR op_ltU (pv 2) pe_int (nomark _)) (pss_one ps_never) pss_nil)
 (pss_cons (ps_set (i := 4) sc_Grammar_init.nd rfl (Or.inl rfl) (pe_lst pa_nil))
 (pss_cons (ps_for PassesOwn.never rfl (pi_enumU (by rfl) T.b_enumerate (pa_cons (pv 3) pa_nil)) (pg_tupU (K := K) rfl rfl (pgs_cons (pg_name (i := 5) sc_Grammar_init.nd rfl (Or.inl rfl)) (pgs_cons (pg_name (i := 6) sc_Grammar_init.nd rfl (Or.inl rfl)) pgs_nil))) (pss_cons (ps_par (i := 7) (j := 8) rfl sc_Grammar_init.nd rfl rfl (by decide) rfl rfl (pa_cons (pe_callTy (r := rTupleU K) call_tupleU (by rfl) T.b_tuple PyProof.Rows.boot_tuple (pa_cons (pe_ix (r := rIx K) ix_seq (pv 6) pe_int (fun _ _ => rfl)) pa_nil)) (pa_cons (pe_callTy (r := rTupleU K) call_tupleU (by rfl) T.b_tuple PyProof.Rows.boot_tuple (pa_cons (pe_ix (r := rIx K) ix_seq (pv 6) pe_int (fun _ _ => rfl)) pa_nil)) pa_nil)) (by rfl))
 (pss_cons (ps_if (pt_not (pt_truthK (K := K) rfl (pe_cx c_is_rule hr (by decide) pass0 (by rfl) (pa_cons (pv 7) (pa_cons (pv 8) (pa_cons (pv 1) (pa_cons (pv 2) pa_nil))))) (fun _ => rfl))) (pss_one ps_never) pss_nil)
 (pss_one (ps_expr (pe_bm PySem.F.plainAttrs_list PySem.F.slot_list_append PySem.F.type_list_append mt_append (pv 4) (pa_cons (pe_tup (pa_cons (pv 7) (pa_cons (pv 8) pa_nil))) pa_nil)))))))
 (pss_cons (ps_fld (pv 0) (pv 1) rfl)
 (pss_cons (ps_fld (pv 0) (pv 2) rfl)
 (pss_one (ps_fld (pv 0) (pe_callTy (r := rTupleU K) call_tupleU (by rfl) T.b_tuple PyProof.Rows.boot_tuple (pa_cons (pv 4) pa_nil)) rfl)))))))), run_init (E := E) rfl (fun W0 => ?_) h⟩
    exact (vs_seq (vs_expr (b := false) (vt_call (va_cons (vt_look 1) va_nil)))
 (vs_seq (vs_if (vb_test (b := false) (vt_opS (b1 := false) (b2 := false) ros_cmp (vt_look 2) vt_int)) vs_never vs_next)
 (vs_seq (vs_asgN (i := 4) (vn_lst va_nil))
 (vs_seq (vs_for (vi_enum (vt_var 3)) (vg_tupU (vgs_cons (vg_name 5) (vgs_cons (vg_name 6) vgs_nil))) (vs_seq (vs_par (va_cons (vt_cb rc_tuple (va_cons (vt_ixv (i := 6) (b2 := false) vt_int) va_nil)) (va_cons (vt_cb rc_tuple (va_cons (vt_ixv (i := 6) (b2 := false) vt_int) va_nil)) va_nil)))
 (vs_seq (vs_if (vb_not (vb_tru (b := false) (vt_call (va_cons (vt_look 7) (va_cons (vt_look 8) (va_cons (vt_look 1) (va_cons (vt_look 2) va_nil))))))) vs_never vs_next)
 (vs_append (i := 4) (vt_tup (va_cons (vt_var 7) (va_cons (vt_var 8) va_nil)))))))
 (vs_seq (vs_fldS T.c_Grammar T.n_Grammar_alphabet (vt_var 1))
 (vs_seq (vs_fldS T.c_Grammar T.n_Grammar_variables (vt_var 2))
 (vs_frz 4 (vs_fldS T.c_Grammar T.n_Grammar_rules (vt_cb rc_tuple (va_cons (vt_var 4) va_nil))))))))))), hm, b⟩

theorem ok__law_digits (T : Txt K mg A)  {f : Addr} {fd : FuncData} (F : Fun K "_law_digits" "_law_digits" s__law_digits f fd) (hm : mg "_law_digits" = some (.ref f)) (b : Binds K fd ["cell", "sizes"] []) :
    CalX P w K mg base CX0 1 "_law_digits" (spP K (m__law_digits A)) :=
  ⟨f, fd, ["cell", "sizes"], F.ok sc__law_digits (spP_len fun ds r h => (mOf_len h).1) (fun cdv A' outer s H vs Q E hr h => by
    refine ⟨_, (pss_cons (ps_set (i := 2) sc__law_digits.nd rfl (Or.inl rfl) (pe_lst pa_nil))
 (pss_cons (ps_set (i := 3) sc__law_digits.nd rfl (Or.inl rfl) (pe_callTy call_intU (by rfl) T.b_int PyProof.Rows.boot_int (pa_cons (pv 0) pa_nil)))
 (pss_cons (ps_if (pt_cmpR op_geU (pv 3) (pe_op op_pow pe_int pe_int) (nomark _)) (pss_cons (ps_set (i := 3) sc__law_digits.nd rfl (Or.inl rfl) (pe_op op_mod (pe_callTy call_intU (by rfl) T.b_int PyProof.Rows.boot_int (pa_cons (pe_op op_sub (pv 3) (pe_op op_pow pe_int pe_int)) pa_nil)) (pe_op op_pow pe_int pe_int)))
 (pss_cons (ps_for PassesOwn.never rfl (pi_seqU (pv 1)) (pg_name (i := 4) sc__law_digits.nd rfl (Or.inl rfl)) (pss_cons (ps_expr (pe_bm PySem.F.plainAttrs_list PySem.F.slot_list_append PySem.F.type_list_append mt_append (pv 2) (pa_cons (pe_op op_mod (pe_callTy call_intU (by rfl) T.b_int PyProof.Rows.boot_int (pa_cons (pv 3) pa_nil)) (pv 4)) pa_nil)))
 (pss_one (ps_set (i := 3) sc__law_digits.nd rfl (Or.inl rfl) (pe_op op_fdivW (pe_callTy call_intU (by rfl) T.b_int PyProof.Rows.boot_int (pa_cons (pv 3) pa_nil)) (pv 4))))))
 (pss_one (ps_ret (pv 2))))) pss_nil)
 (pss_cons (ps_set (i := 5) sc__law_digits.nd rfl (Or.inl rfl) (pe_op op_mod (pe_callTy call_intU (by rfl) T.b_int PyProof.Rows.boot_int (pa_cons (pv 3) pa_nil)) pe_int))
 (pss_cons (ps_for PassesOwn.never rfl (pi_range1 (by rfl) T.b_range (pa_cons (pe_callB (r := rLenU K) call_lenU (by rfl) T.b_len PySem.boot_len (pa_cons (pv 1) pa_nil)) pa_nil)) (pg_name (i := 6) sc__law_digits.nd rfl (Or.inl rfl)) (pss_cons (ps_set (i := 5) sc__law_digits.nd rfl (Or.inl rfl) (pe_op op_mod (pe_callTy call_intU (by rfl) T.b_int PyProof.Rows.boot_int (pa_cons (pe_op (r := rAddU K) op_addU (pe_op (r := rAddU K) op_addU (pe_op op_mulU (pv 5) pe_int) (pe_op op_mulU pe_int (pv 6))) pe_int) pa_nil)) pe_int))
 (pss_cons (ps_set (i := 7) sc__law_digits.nd rfl (Or.inl rfl) (pe_op op_mod (pe_callTy call_intU (by rfl) T.b_int PyProof.Rows.boot_int (pa_cons (pe_op op_mulU (pv 5) (pe_op (r := rAddU K) op_addU (pe_op op_fdivW (pv 5) pe_int) pe_int)) pa_nil)) pe_int))
 (pss_one (ps_expr (pe_bm PySem.F.plainAttrs_list PySem.F.slot_list_append PySem.F.type_list_append mt_append (pv 2) (pa_cons (pe_op op_mod (pe_callTy call_intU (by rfl) T.b_int PyProof.Rows.boot_int (pa_cons (pe_op op_fdivW (pv 7) pe_int) pa_nil)) (pe_ix (r := rIx K) ix_seq (pv 1) (pv 6) (fun _ _ => rfl))) pa_nil)))))))
 (pss_one (ps_ret (pv 2)))))))), run_def (E := E) rfl (fun W0 => ?_) h⟩
    exact (vs_seq (vs_asgN (i := 2) (vn_lst va_nil))
 (vs_seq (vs_asg (vt_cbS (b1 := false) rcs_int (va_cons (vt_look 0) va_nil)) (vg_name 3))
 (vs_seq (vs_if (vb_test (b := false) (vt_opS (b1 := false) (b2 := false) ros_cmp (vt_look 3) (vt_opS (b1 := false) (b2 := false) (ros_I (C := CPow) (f := fun i j => i ^ j.toNat)) vt_int vt_int))) (vs_seq (vs_asg (vt_opS (b1 := false) (b2 := false) (ros_I (C := PosR) (f := fun i j => i % j)) (vt_cbS (b1 := false) rcs_int (va_cons (vt_opS (b1 := false) (b2 := false) ros_sub (vt_look 3) (vt_opS (b1 := false) (b2 := false) (ros_I (C := CPow) (f := fun i j => i ^ j.toNat)) vt_int vt_int)) va_nil)) (vt_opS (b1 := false) (b2 := false) (ros_I (C := CPow) (f := fun i j => i ^ j.toNat)) vt_int vt_int)) (vg_name 3))
 (vs_seq (vs_for (vi_seqU (vt_var 1)) (vg_name 4) (vs_seq (vs_append (i := 2) (vt_opS (b1 := false) (b2 := false) (ros_I (C := PosR) (f := fun i j => i % j)) (vt_cbS (b1 := false) rcs_int (va_cons (vt_look 3) va_nil)) (vt_look 4)))
 (vs_asg (vt_opS (b1 := false) (b2 := false) (ros_I (C := CDivW) (f := fun i j => i / j)) (vt_cbS (b1 := false) rcs_int (va_cons (vt_look 3) va_nil)) (vt_look 4)) (vg_name 3))))
 (vs_ret (vt_var 2)))) vs_next)
 (vs_seq (vs_asg (vt_opS (b1 := false) (b2 := false) (ros_I (C := PosR) (f := fun i j => i % j)) (vt_cbS (b1 := false) rcs_int (va_cons (vt_look 3) va_nil)) vt_int) (vg_name 5))
 (vs_seq (vs_for (vi_rg1 (b := false) (va_cons (vt_cbS (b1 := false) rcs_len (va_cons (vt_look 1) va_nil)) va_nil)) (vg_name 6) (vs_seq (vs_asg (vt_opS (b1 := false) (b2 := false) (ros_I (C := PosR) (f := fun i j => i % j)) (vt_cbS (b1 := false) rcs_int (va_cons (vt_op ro_add (vt_op ro_add (vt_op ro_mul (vt_look 5) vt_int) (vt_op ro_mul vt_int (vt_look 6))) vt_int) va_nil)) vt_int) (vg_name 5))
 (vs_seq (vs_asg (vt_opS (b1 := false) (b2 := false) (ros_I (C := PosR) (f := fun i j => i % j)) (vt_cbS (b1 := false) rcs_int (va_cons (vt_op ro_mul (vt_look 5) (vt_op ro_add (vt_opS (b1 := false) (b2 := false) (ros_I (C := CDivW) (f := fun i j => i / j)) (vt_look 5) vt_int) vt_int)) va_nil)) vt_int) (vg_name 7))
 (vs_append (i := 2) (vt_opS (b1 := false) (b2 := false) (ros_I (C := PosR) (f := fun i j => i % j)) (vt_cbS (b1 := false) rcs_int (va_cons (vt_opS (b1 := false) (b2 := false) (ros_I (C := CDivW) (f := fun i j => i / j)) (vt_look 7) vt_int) va_nil)) (vt_ixv (i := 1) (b2 := false) (vt_look 6)))))))
 (vs_ret (vt_var 2)))))))), hm, F.kp, b⟩

theorem ok__law_alphabet (T : Txt K mg A) (c__law_digits : CalX P w K mg base CX0 1 "_law_digits" (spP K (m__law_digits A))) {f : Addr} {fd : FuncData} (F : Fun K "_law_alphabet" "_law_alphabet" s__law_alphabet f fd) (hm : mg "_law_alphabet" = some (.ref f)) (b : Binds K fd ["cell"] []) :
    CalX P w K mg base CX0 2 "_law_alphabet" (spP K (m__law_alphabet A)) :=
  ⟨f, fd, ["cell"], F.ok sc__law_alphabet (spP_len fun ds r h => (mOf_len h).1) (fun cdv A' outer s H vs Q E hr h => by
    refine ⟨_, (pss_cons (ps_set (i := 1) sc__law_alphabet.nd rfl (Or.inr rfl) (pe_cx c__law_digits hr (by decide) pass0 (by rfl) (pa_cons (pv 0) (pa_cons (pe_lst (pa_cons pe_int (pa_cons pe_int (pa_cons pe_int (pa_cons pe_int (pa_cons pe_int pa_nil)))))) pa_nil))))
 (pss_cons (ps_set (i := 2) sc__law_alphabet.nd rfl (Or.inr rfl) pe_str)
 (pss_one (ps_ret (pe_joinU (K := K) rfl pe_str (pe_lc (own := [("k", 3)]) rfl sc__law_alphabet.nd (pi_range1 (by rfl) T.b_range (pa_cons pe_int pa_nil)) (blkOk_by (N := N__law_alphabet) (sc := defScope s__law_alphabet) (by decide +kernel)) (fun _ _ _ _ _ => (pg_name (i := 3) sc__law_alphabet.nd rfl (Or.inl rfl))) (fun _ _ _ _ _ => (pts_one (pt_cmpR (r := rInU K) op_inU (pv 3) (pe_slice (r := rCutU K) sl_U (pv 1) (po_some pe_int) (po_some (pe_op (r := rAddU K) op_addU pe_int (pe_ix (r := rIx K) ix_seq (pv 1) pe_int (fun _ _ => rfl))))) (by with_unfolding_all rfl)))) (fun _ _ _ _ _ => (pe_ix (r := rIx K) ix_seq (pv 2) (pv 3) (fun _ _ => rfl))))))))), run_def (E := E) rfl (fun W0 => ?_) h⟩
    exact (vs_seq (vs_asg (vt_call (va_cons (vt_var 0) (va_cons (vt_vn (vn_lst (va_cons vt_int (va_cons vt_int (va_cons vt_int (va_cons vt_int (va_cons vt_int va_nil))))))) va_nil))) (vg_name 1))
 (vs_seq (vs_asg vt_str (vg_name 2))
 (vs_ret (vt_join (b1 := false) (b2 := false) vt_str (vt_vn (vn_lc (vi_rg1 (b := false) (va_cons vt_int va_nil)) (vg_name 3) (by decide) (vb_test (b := false) (vt_opS (b1 := false) (b2 := false) ros_in (vt_look 3) (vt_cut (vt_look 1) (vo_some (b := false) vt_int) (vo_some (b := false) (vt_op ro_add vt_int (vt_ixv (i := 1) (b2 := false) vt_int)))))) (vt_ixv (i := 2) (b2 := false) (vt_look 3))))))))), hm, F.kp, b⟩

theorem ok_rewritten (T : Txt K mg A)  {f : Addr} {fd : FuncData} (F : Fun K "rewritten" "rewritten" s_rewritten f fd) (hm : mg "rewritten" = some (.ref f)) (b : Binds K fd ["grammar", "form", "number", "place"] []) :
    CalX P w K mg base CX0 1 "rewritten" (spP K (m_rewritten A)) :=
  ⟨f, fd, ["grammar", "form", "number", "place"], F.ok sc_rewritten (spP_len fun ds r h => (mOf_len h).1) (fun cdv A' outer s H vs Q E hr h => by
    refine ⟨_, (pss_cons (ps_if (PW.pt (pw_or (pt_not (pt_chain op_leU op_ltU pe_int (pv 2) (pe_callB (r := rLenU K) call_lenU (by rfl) T.b_len PySem.boot_len (pa_cons (pe_fldK (K := K) rfl (pv 0) rfl) pa_nil)))) (pw_or1 (pt_cmpR op_ltU (pv 3) pe_int (nomark _))))) (pss_one (ps_ret pe_non)) pss_nil)
 (pss_cons (ps_asg (pe_ix (r := rIx K) ix_seq (pe_fldK (K := K) rfl (pv 0) rfl) (pv 2) (fun _ _ => rfl)) (pg_tupU (K := K) rfl rfl (pgs_cons (pg_name (i := 4) sc_rewritten.nd rfl (Or.inl rfl)) (pgs_cons (pg_name (i := 5) sc_rewritten.nd rfl (Or.inl rfl)) pgs_nil))))
 (pss_cons (ps_set (i := 6) sc_rewritten.nd rfl (Or.inl rfl) (pe_callTy (r := rTupleU K) call_tupleU (by rfl) T.b_tuple PyProof.Rows.boot_tuple (pa_cons (pv 1) pa_nil)))
 (pss_cons (ps_if (pt_cmpR (r := rNeU K) (op_neU hr.units) (pe_slice (r := rCutU K) sl_U (pv 6) (po_some (pv 3)) (po_some (pe_op (r := rAddU K) op_addU (pv 3) (pe_callB (r := rLenU K) call_lenU (by rfl) T.b_len PySem.boot_len (pa_cons (pv 4) pa_nil))))) (pv 4) (nomark _)) (pss_one (ps_ret pe_non)) pss_nil)
 (pss_one (ps_ret (pe_op (r := rAddU K) op_addU (pe_op (r := rAddU K) op_addU (pe_slice (r := rCutU K) sl_U (pv 6) po_none (po_some (pv 3))) (pv 5)) (pe_slice (r := rCutU K) sl_U (pv 6) (po_some (pe_op (r := rAddU K) op_addU (pv 3) (pe_callB (r := rLenU K) call_lenU (by rfl) T.b_len PySem.boot_len (pa_cons (pv 4) pa_nil)))) po_none)))))))), run_def (E := E) rfl (fun W0 => ?_) h⟩
    exact (vs_seq (vs_if (vb_or (vb_not (vb_test (b := false) (vt_chain (b1 := false) (b2 := false) (b3 := false) ros_cmp ros_cmp vt_int (vt_look 2) (vt_cbS (b1 := false) rcs_len (va_cons (vt_fld T.c_Grammar T.n_Grammar_rules (vt_look 0)) va_nil))))) (vb_test (b := false) (vt_opS (b1 := false) (b2 := false) ros_cmp (vt_look 3) vt_int))) (vs_ret vt_non) vs_next)
 (vs_seq (vs_asg (vt_op ro_ix (vt_fld T.c_Grammar T.n_Grammar_rules (vt_var 0)) (vt_var 2)) (vg_tupU (vgs_cons (vg_name 4) (vgs_cons (vg_name 5) vgs_nil))))
 (vs_seq (vs_asg (vt_cb rc_tuple (va_cons (vt_var 1) va_nil)) (vg_name 6))
 (vs_seq (vs_if (vb_test (b := false) (vt_opS (b1 := false) (b2 := false) ros_ne (vt_cut (vt_look 6) (vo_some (b := false) (vt_look 3)) (vo_some (b := false) (vt_op ro_add (vt_look 3) (vt_cbS (b1 := false) rcs_len (va_cons (vt_look 4) va_nil))))) (vt_look 4))) (vs_ret vt_non) vs_next)
 (vs_ret (vt_op ro_add (vt_op ro_add (vt_cut (vt_var 6) vo_none (vo_some (b := false) (vt_look 3))) (vt_var 5)) (vt_cut (vt_var 6) (vo_some (b := false) (vt_op ro_add (vt_look 3) (vt_cbS (b1 := false) rcs_len (va_cons (vt_look 4) va_nil)))) vo_none)))))))), hm, F.kp, b⟩

theorem ok_forms_until (T : Txt K mg A) (c_rewritten : CalX P w K mg base CX0 1 "rewritten" (spP K (m_rewritten A))) {f : Addr} {fd : FuncData} (F : Fun K "forms_until" "forms_until" s_forms_until f fd) (hm : mg "forms_until" = some (.ref f)) (b : Binds K fd ["grammar", "row"] []) :
    CalX P w K mg base CX0 2 "forms_until" (spP K (m_forms_until A)) :=
  ⟨f, fd, ["grammar", "row"], F.ok sc_forms_until (spP_len fun ds r h => (mOf_len h).1) (fun cdv A' outer s H vs Q E hr h => by
    refine ⟨_, (pss_cons (ps_set (i := 2) sc_forms_until.nd rfl (Or.inl rfl) (pe_lst (pa_cons (pe_tup (pa_cons pe_int pa_nil)) pa_nil)))
 (pss_cons (ps_for PassesOwn.never rfl (pi_seqU (pv 1)) (pg_tupU (K := K) rfl rfl (pgs_cons (pg_name (i := 3) sc_forms_until.nd rfl (Or.inl rfl)) (pgs_cons (pg_name (i := 4) sc_forms_until.nd rfl (Or.inl rfl)) pgs_nil))) (pss_cons (ps_set (i := 5) sc_forms_until.nd rfl (Or.inl rfl) (pe_cx c_rewritten hr (by decide) pass0 (by rfl) (pa_cons (pv 0) (pa_cons (pe_ix (r := rIx K) ix_seq (pv 2) (pe_un un_neg pe_int) (fun _ _ => rfl)) (pa_cons (pv 3) (pa_cons (pv 4) pa_nil))))))
 (pss_cons (ps_if (pt_cmpR op_isU (pv 5) pe_non (nomark _)) (pss_one ps_break) pss_nil)
 (pss_one (ps_expr (pe_bm PySem.F.plainAttrs_list PySem.F.slot_list_append PySem.F.type_list_append mt_append (pv 2) (pa_cons (pv 5) pa_nil)))))))
 (pss_one (ps_ret (pv 2))))), run_def (E := E) rfl (fun W0 => ?_) h⟩
    exact (vs_seq (vs_asgN (i := 2) (vn_lst (va_cons (vt_tup (va_cons vt_int va_nil)) va_nil)))
 (vs_seq (vs_for (vi_seqU (vt_var 1)) (vg_tupU (vgs_cons (vg_name 3) (vgs_cons (vg_name 4) vgs_nil))) (vs_seq (vs_asg (vt_call (va_cons (vt_var 0) (va_cons (vt_ixv (i := 2) (b2 := false) (vt_neg (b1 := false) vt_int)) (va_cons (vt_var 3) (va_cons (vt_var 4) va_nil))))) (vg_name 5))
 (vs_seq (vs_if (vb_test (b := false) (vt_opS (b1 := false) (b2 := false) ros_is (vt_look 5) vt_non)) vs_break vs_next)
 (vs_append (i := 2) (vt_var 5)))))
 (vs_ret (vt_var 2))))), hm, F.kp, b⟩

theorem ok_forms_along (T : Txt K mg A) (c_forms_until : CalX P w K mg base CX0 2 "forms_until" (spP K (m_forms_until A))) (x_BadRow : ExcX P w K mg base 1 "BadRow" A.C_BadRow (spX1 A.C_BadRow "index")) {f : Addr} {fd : FuncData} (F : Fun K "forms_along" "forms_along" s_forms_along f fd) (hm : mg "forms_along" = some (.ref f)) (b : Binds K fd ["grammar", "row"] []) :
    CalX P w K mg base (L2.CX P w) 3 "forms_along" (spP K (m_forms_along A)) :=
  ⟨f, fd, ["grammar", "row"], F.okX sc_forms_along (spP_len fun ds r h => (mOf_len h).1) (fun cdv A' outer s H vs Q E hr h => by
    refine ⟨_, (pss_cons (ps_set (i := 2) sc_forms_along.nd rfl (Or.inl rfl) (pe_cx c_forms_until hr (by decide) pass0 (by rfl) (pa_cons (pv 0) (pa_cons (pv 1) pa_nil))))
 (pss_cons (ps_if (pt_cmpR op_leU (pe_callB (r := rLenU K) call_lenU (by rfl) T.b_len PySem.boot_len (pa_cons (pv 2) pa_nil)) (pe_callB (r := rLenU K) call_lenU (by rfl) T.b_len PySem.boot_len (pa_cons (pv 1) pa_nil)) (nomark _)) (pss_one (ps_raise rfl (takes_of rfl rfl rfl rfl) (pmk_x x_BadRow hr (by decide) (by rfl) (pa_cons (pe_op op_sub (pe_callB (r := rLenU K) call_lenU (by rfl) T.b_len PySem.boot_len (pa_cons (pv 2) pa_nil)) pe_int) pa_nil)))) pss_nil)
 (pss_one (ps_ret (pe_callTy (r := rTupleU K) call_tupleU (by rfl) T.b_tuple PyProof.Rows.boot_tuple (pa_cons (pv 2) pa_nil)))))), run_def (E := E) rfl (fun W0 => ?_) h⟩
    exact (vs_seq (vs_asg (vt_call (va_cons (vt_var 0) (va_cons (vt_var 1) va_nil))) (vg_name 2))
 (vs_seq (vs_if (vb_test (b := false) (vt_opS (b1 := false) (b2 := false) ros_cmp (vt_cbS (b1 := false) rcs_len (va_cons (vt_look 2) va_nil)) (vt_cbS (b1 := false) rcs_len (va_cons (vt_look 1) va_nil)))) (vs_raise1 (va_cons (vt_opS (b1 := false) (b2 := false) ros_sub (vt_cbS (b1 := false) rcs_len (va_cons (vt_look 2) va_nil)) vt_int) va_nil)) vs_next)
 (vs_ret (vt_cb rc_tuple (va_cons (vt_var 2) va_nil)))))), hm, F.kp, b⟩

theorem ok_derived (T : Txt K mg A) (c_forms_along : CalX P w K mg base (L2.CX P w) 3 "forms_along" (spP K (m_forms_along A))) {f : Addr} {fd : FuncData} (F : Fun K "derived" "derived" s_derived f fd) (hm : mg "derived" = some (.ref f)) (b : Binds K fd ["grammar", "row"] []) :
    CalX P w K mg base (L2.CX P w) 4 "derived" (spP K (m_derived A)) :=
  ⟨f, fd, ["grammar", "row"], F.okX sc_derived (spP_len fun ds r h => (mOf_len h).1) (fun cdv A' outer s H vs Q E hr h => by
    refine ⟨_, (pss_one (ps_ret (pe_ix (r := rIx K) ix_seq (pe_cx c_forms_along hr (by decide) (passes_call (takes_of rfl rfl rfl rfl) (fun _ _ _ _ h => h)) (by rfl) (pa_cons (pv 0) (pa_cons (pv 1) pa_nil))) (pe_un un_neg pe_int) (fun _ _ => rfl)))), run_def (E := E) rfl (fun W0 => ?_) h⟩
    exact (vs_retX (vtx_op ro_ix (vtx_call (va_cons (vt_var 0) (va_cons (vt_var 1) va_nil))) (vt_neg (b1 := false) vt_int)))), hm, F.kp, b⟩

theorem ok__law_asked (T : Txt K mg A) (c_derived : CalX P w K mg base (L2.CX P w) 4 "derived" (spP K (m_derived A))) (c_forms_along : CalX P w K mg base (L2.CX P w) 3 "forms_along" (spP K (m_forms_along A))) {f : Addr} {fd : FuncData} (F : Fun K "_law_asked" "_law_asked" s__law_asked f fd) (hm : mg "_law_asked" = some (.ref f)) (b : Binds K fd ["which", "grammar", "handed"] []) :
    CalX P w K mg base CX0 5 "_law_asked" (spP K (m__law_asked A)) :=
  ⟨f, fd, ["which", "grammar", "handed"], F.ok sc__law_asked (spP_len fun ds r h => (mOf_len h).1) (fun cdv A' outer s H vs Q E hr h => by
    refine ⟨_, (pss_one (ps_tryG (K := K) (i := 3) (Wout := fun _ _ _ _ => False) rfl rfl rfl sc__law_asked.nd rfl rfl ⟨rfl, by decide, Or.inl T.g_LeashError⟩ takes0 (fun W pn xe tk _ => (pss_cons (ps_if (pt_cmpR (r := rEqU K) (op_eqU hr.units) (pv 0) pe_int (nomark _)) (pss_one (ps_ret (pe_tup (pa_cons pe_str (pa_cons (pe_csx c_forms_along hr (by decide) (fun σ => passAt tk σ) (by rfl) (pa_cons (pv 1) (pa_cons (pv 2) pa_nil))) pa_nil))))) pss_nil)
 (pss_one (ps_ret (pe_tup (pa_cons pe_str (pa_cons (pe_csx c_derived hr (by decide) (fun σ => passAt tk σ) (by rfl) (pa_cons (pv 1) (pa_cons (pv 2) pa_nil))) pa_nil))))))) (fun a oe cls d pn hz hf => (pss_cons (ps_set (i := 4) sc__law_asked.nd rfl (Or.inl rfl) (pe_lst (pa_cons (pe_callB (r := rIsX K A.C_BadRow a cls d) (call_isX T.y_BadRow hz hf) (by rfl) T.b_isinstance (by decide +kernel) (pa_cons (pv 3) (pa_cons (pe_glob (v := .ref A.C_NotOfKind) (by rfl) T.g_NotOfKind rfl) pa_nil))) (pa_cons (pe_callB (r := rIsX K A.C_BadRow a cls d) (call_isX T.y_BadRow hz hf) (by rfl) T.b_isinstance (by decide +kernel) (pa_cons (pv 3) (pa_cons (pe_glob (v := .ref A.C_BadRun) (by rfl) T.g_BadRun rfl) pa_nil))) (pa_cons (pe_callB (r := rIsX K A.C_BadRow a cls d) (call_isX T.y_BadRow hz hf) (by rfl) T.b_isinstance (by decide +kernel) (pa_cons (pv 3) (pa_cons (pe_glob (v := .ref A.C_BadForm) (by rfl) T.g_BadForm rfl) pa_nil))) (pa_cons (pe_callB (r := rIsX K A.C_BadRow a cls d) (call_isX T.y_BadRow hz hf) (by rfl) T.b_isinstance (by decide +kernel) (pa_cons (pv 3) (pa_cons (pe_glob (v := .ref A.C_BadRule) (by rfl) T.g_BadRule rfl) pa_nil))) pa_nil))))))
 (pss_cons (ps_if (PW.pt (pw_or (pt_not (pt_truthK (K := K) rfl (pe_callB (r := rIsX K A.C_BadRow a cls d) (call_isX T.y_BadRow hz hf) (by rfl) T.b_isinstance (by decide +kernel) (pa_cons (pv 3) (pa_cons (pe_glob (v := .ref A.C_BadRow) (by rfl) T.g_BadRow rfl) pa_nil))) (fun _ => rfl))) (pw_or (pt_not (pt_truthK (K := K) rfl (pe_callB (r := rIsX K A.C_BadRow a cls d) (call_isX T.y_BadRow hz hf) (by rfl) T.b_isinstance (by decide +kernel) (pa_cons (pv 3) (pa_cons (pe_bltn (v := .ty "ValueError") (u := .type "ValueError") (by rfl) T.b_ValueError (by decide +kernel) rfl) pa_nil))) (fun _ => rfl))) (pw_or1 (pt_cmpR op_gtU (pe_cntK (K := K) rfl (pv 4) (pa_cons pe_bl pa_nil)) pe_int (nomark _)))))) (pss_one (ps_ret (pe_tup (pa_cons pe_str (pa_cons pe_int pa_nil))))) pss_nil)
 (pss_one (ps_ret (pe_tup (pa_cons pe_str (pa_cons (pe_xf T.x_BadRow T.xn_BadRow_index hz hf (pv 3)) pa_nil)))))))))), run_def (E := E) rfl (fun W0 => ?_) h⟩
    exact (vs_tryG T.x_BadRow_LeashError (fun Wx => (y_seq (y_if (vb_test (b := false) (vt_opS (b1 := false) (b2 := false) ros_eq (vt_look 0) vt_int)) (y_ret (vtx_tup (vax_cons (vtx_val vt_str) (vax_cons (vtx_callS (va_cons (vt_var 1) (va_cons (vt_var 2) va_nil))) vax_nil)))) y_next)
 (y_ret (vtx_tup (vax_cons (vtx_val vt_str) (vax_cons (vtx_callS (va_cons (vt_var 1) (va_cons (vt_var 2) va_nil))) vax_nil)))))) (fun a d => (vs_seq (vs_asg (vt_vn (vn_lst (va_cons (vt_isX (i := 3) (fun u h => h) T.q_BadRow_NotOfKind) (va_cons (vt_isX (i := 3) (fun u h => h) T.q_BadRow_BadRun) (va_cons (vt_isX (i := 3) (fun u h => h) T.q_BadRow_BadForm) (va_cons (vt_isX (i := 3) (fun u h => h) T.q_BadRow_BadRule) va_nil)))))) (vg_name 4))
 (vs_seq (vs_if (vb_or (vb_not (vb_tru (b := false) (vt_isX (i := 3) (fun u h => h) T.q_BadRow_BadRow))) (vb_or (vb_not (vb_tru (b := false) (vt_isX (i := 3) (fun u h => h) T.q_BadRow_ValueError))) (vb_test (b := false) (vt_opS (b1 := false) (b2 := false) ros_cmp (vt_cnt (b1 := false) (b2 := false) (vt_look 4) vt_bl) vt_int)))) (vs_ret (vt_tup (va_cons vt_str (va_cons vt_int va_nil)))) vs_next)
 (vs_ret (vt_tup (va_cons vt_str (va_cons vt_xf va_nil))))))))), hm, F.kp, b⟩

theorem ok__law_whole (T : Txt K mg A)  {f : Addr} {fd : FuncData} (F : Fun K "_law_whole" "_law_whole" s__law_whole f fd) (hm : mg "_law_whole" = some (.ref f)) (b : Binds K fd ["value"] []) :
    CalX P w K mg base CX0 1 "_law_whole" (spP K (m__law_whole A)) :=
  ⟨f, fd, ["value"], F.ok sc__law_whole (spP_len fun ds r h => (mOf_len h).1) (fun cdv A' outer s H vs Q E hr h => by
    refine ⟨_, (pss_one (ps_ret (pe_and (pe_callB (r := rIsi K) call_isi (by rfl) T.b_isinstance (by decide +kernel) (pa_cons (pv 0) (pa_cons (pe_bltn (v := .ty "int") (u := .type "int") (by rfl) T.b_int (by decide +kernel) rfl) pa_nil))) (pe_one (pe_not (pe_callB (r := rIsi K) call_isi (by rfl) T.b_isinstance (by decide +kernel) (pa_cons (pv 0) (pa_cons (pe_bltn (v := .ty "bool") (u := .type "bool") (by rfl) T.b_bool (by decide +kernel) rfl) pa_nil)))))))), run_def (E := E) rfl (fun W0 => ?_) h⟩
    exact (vs_ret (vt_andV (b1 := false) (b2 := false) (vt_isi (n := "int") (b1 := false) (vt_look 0)) (vt_notV (b1 := false) (vt_isi (n := "bool") (b1 := false) (vt_look 0)))))), hm, F.kp, b⟩

theorem ok__law_side_alike (T : Txt K mg A) (c__law_whole : CalX P w K mg base CX0 1 "_law_whole" (spP K (m__law_whole A))) {f : Addr} {fd : FuncData} (F : Fun K "_law_side_alike" "_law_side_alike" s__law_side_alike f fd) (hm : mg "_law_side_alike" = some (.ref f)) (b : Binds K fd ["told", "side"] []) :
    CalX P w K mg base CX0 2 "_law_side_alike" (spP K (m__law_side_alike A)) :=
  ⟨f, fd, ["told", "side"], F.ok sc__law_side_alike (spP_len fun ds r h => (mOf_len h).1) (fun cdv A' outer s H vs Q E hr h => by
    refine ⟨_, (pss_cons (ps_if (PW.pt (pw_or (pt_not (pt_truthK (K := K) rfl (pe_callB (r := rIsi K) call_isi (by rfl) T.b_isinstance (by decide +kernel) (pa_cons (pv 0) (pa_cons (pe_bltn (v := .ty "tuple") (u := .type "tuple") (by rfl) T.b_tuple (by decide +kernel) rfl) pa_nil))) (fun _ => rfl))) (pw_or1 (pt_cmpR (r := rNeU K) (op_neU hr.units) (pe_callB (r := rLenU K) call_lenU (by rfl) T.b_len PySem.boot_len (pa_cons (pv 0) pa_nil)) (pe_callB (r := rLenU K) call_lenU (by rfl) T.b_len PySem.boot_len (pa_cons (pv 1) pa_nil)) (nomark _))))) (pss_one (ps_ret pe_bl)) pss_nil)
 (pss_cons (ps_for PassesOwn.never rfl (pi_range1 (by rfl) T.b_range (pa_cons (pe_callB (r := rLenU K) call_lenU (by rfl) T.b_len PySem.boot_len (pa_cons (pv 1) pa_nil)) pa_nil)) (pg_name (i := 2) sc__law_side_alike.nd rfl (Or.inl rfl)) (pss_one (ps_if (pt_truthK (K := K) rfl (pe_callB (r := rIsi K) call_isi (by rfl) T.b_isinstance (by decide +kernel) (pa_cons (pe_ix (r := rIx K) ix_seq (pv 1) (pv 2) (fun _ _ => rfl)) (pa_cons (pe_bltn (v := .ty "str") (u := .type "str") (by rfl) T.b_str (by decide +kernel) rfl) pa_nil))) (fun _ => rfl)) (pss_one (ps_if (PW.pt (pw_or (pt_not (pt_truthK (K := K) rfl (pe_callB (r := rIsi K) call_isi (by rfl) T.b_isinstance (by decide +kernel) (pa_cons (pe_ix (r := rIx K) ix_seq (pv 0) (pv 2) (fun _ _ => rfl)) (pa_cons (pe_bltn (v := .ty "str") (u := .type "str") (by rfl) T.b_str (by decide +kernel) rfl) pa_nil))) (fun _ => rfl))) (pw_or1 (pt_cmpR (r := rNeU K) (op_neU hr.units) (pe_ix (r := rIx K) ix_seq (pv 0) (pv 2) (fun _ _ => rfl)) (pe_ix (r := rIx K) ix_seq (pv 1) (pv 2) (fun _ _ => rfl)) (nomark _))))) (pss_one (ps_ret pe_bl)) pss_nil)) (pss_one (ps_if (PW.pt (pw_or (pt_not (pt_truthK (K := K) rfl (pe_cx c__law_whole hr (by decide) pass0 (by rfl) (pa_cons (pe_ix (r := rIx K) ix_seq (pv 0) (pv 2) (fun _ _ => rfl)) pa_nil)) (fun _ => rfl))) (pw_or1 (pt_cmpR (r := rNeU K) (op_neU hr.units) (pe_ix (r := rIx K) ix_seq (pv 0) (pv 2) (fun _ _ => rfl)) (pe_ix (r := rIx K) ix_seq (pv 1) (pv 2) (fun _ _ => rfl)) (nomark _))))) (pss_one (ps_ret pe_bl)) pss_nil)))))
 (pss_one (ps_ret pe_bl)))), run_def (E := E) rfl (fun W0 => ?_) h⟩
    exact (vs_seq (vs_if (vb_or (vb_not (vb_tru (b := false) (vt_isi (n := "tuple") (b1 := false) (vt_look 0)))) (vb_test (b := false) (vt_opS (b1 := false) (b2 := false) ros_ne (vt_cbS (b1 := false) rcs_len (va_cons (vt_look 0) va_nil)) (vt_cbS (b1 := false) rcs_len (va_cons (vt_look 1) va_nil))))) (vs_ret vt_bl) vs_next)
 (vs_seq (vs_for (vi_rg1 (b := false) (va_cons (vt_cbS (b1 := false) rcs_len (va_cons (vt_look 1) va_nil)) va_nil)) (vg_name 2) (vs_if (vb_tru (b := false) (vt_isi (n := "str") (b1 := false) (vt_ixv (i := 1) (b2 := false) (vt_look 2)))) (vs_if (vb_or (vb_not (vb_tru (b := false) (vt_isi (n := "str") (b1 := false) (vt_ixv (i := 0) (b2 := false) (vt_look 2))))) (vb_test (b := false) (vt_opS (b1 := false) (b2 := false) ros_ne (vt_ixv (i := 0) (b2 := false) (vt_look 2)) (vt_ixv (i := 1) (b2 := false) (vt_look 2))))) (vs_ret vt_bl) vs_next) (vs_if (vb_or (vb_not (vb_tru (b := false) (vt_call (va_cons (vt_ixv (i := 0) (b2 := false) (vt_look 2)) va_nil)))) (vb_test (b := false) (vt_opS (b1 := false) (b2 := false) ros_ne (vt_ixv (i := 0) (b2 := false) (vt_look 2)) (vt_ixv (i := 1) (b2 := false) (vt_look 2))))) (vs_ret vt_bl) vs_next)))
 (vs_ret vt_bl)))), hm, F.kp, b⟩

theorem ok__law_forms_alike (T : Txt K mg A) (c__law_side_alike : CalX P w K mg base CX0 2 "_law_side_alike" (spP K (m__law_side_alike A))) {f : Addr} {fd : FuncData} (F : Fun K "_law_forms_alike" "_law_forms_alike" s__law_forms_alike f fd) (hm : mg "_law_forms_alike" = some (.ref f)) (b : Binds K fd ["told", "forms"] []) :
    CalX P w K mg base CX0 3 "_law_forms_alike" (spP K (m__law_forms_alike A)) :=
  ⟨f, fd, ["told", "forms"], F.ok sc__law_forms_alike (spP_len fun ds r h => (mOf_len h).1) (fun cdv A' outer s H vs Q E hr h => by
    refine ⟨_, (pss_cons (ps_if (PW.pt (pw_or (pt_not (pt_truthK (K := K) rfl (pe_callB (r := rIsi K) call_isi (by rfl) T.b_isinstance (by decide +kernel) (pa_cons (pv 0) (pa_cons (pe_bltn (v := .ty "tuple") (u := .type "tuple") (by rfl) T.b_tuple (by decide +kernel) rfl) pa_nil))) (fun _ => rfl))) (pw_or1 (pt_cmpR (r := rNeU K) (op_neU hr.units) (pe_callB (r := rLenU K) call_lenU (by rfl) T.b_len PySem.boot_len (pa_cons (pv 0) pa_nil)) (pe_callB (r := rLenU K) call_lenU (by rfl) T.b_len PySem.boot_len (pa_cons (pv 1) pa_nil)) (nomark _))))) (pss_one (ps_ret pe_bl)) pss_nil)
 (pss_cons (ps_for PassesOwn.never rfl (pi_range1 (by rfl) T.b_range (pa_cons (pe_callB (r := rLenU K) call_lenU (by rfl) T.b_len PySem.boot_len (pa_cons (pv 1) pa_nil)) pa_nil)) (pg_name (i := 2) sc__law_forms_alike.nd rfl (Or.inl rfl)) (pss_one (ps_if (pt_not (pt_truthK (K := K) rfl (pe_cx c__law_side_alike hr (by decide) pass0 (by rfl) (pa_cons (pe_ix (r := rIx K) ix_seq (pv 0) (pv 2) (fun _ _ => rfl)) (pa_cons (pe_ix (r := rIx K) ix_seq (pv 1) (pv 2) (fun _ _ => rfl)) pa_nil))) (fun _ => rfl))) (pss_one (ps_ret pe_bl)) pss_nil)))
 (pss_one (ps_ret pe_bl)))), run_def (E := E) rfl (fun W0 => ?_) h⟩
    exact (vs_seq (vs_if (vb_or (vb_not (vb_tru (b := false) (vt_isi (n := "tuple") (b1 := false) (vt_look 0)))) (vb_test (b := false) (vt_opS (b1 := false) (b2 := false) ros_ne (vt_cbS (b1 := false) rcs_len (va_cons (vt_look 0) va_nil)) (vt_cbS (b1 := false) rcs_len (va_cons (vt_look 1) va_nil))))) (vs_ret vt_bl) vs_next)
 (vs_seq (vs_for (vi_rg1 (b := false) (va_cons (vt_cbS (b1 := false) rcs_len (va_cons (vt_look 1) va_nil)) va_nil)) (vg_name 2) (vs_if (vb_not (vb_tru (b := false) (vt_call (va_cons (vt_ixv (i := 0) (b2 := false) (vt_look 2)) (va_cons (vt_ixv (i := 1) (b2 := false) (vt_look 2)) va_nil))))) (vs_ret vt_bl) vs_next))
 (vs_ret vt_bl)))), hm, F.kp, b⟩

theorem ok_is_derivation (T : Txt K mg A) (c_forms_until : CalX P w K mg base CX0 2 "forms_until" (spP K (m_forms_until A))) {f : Addr} {fd : FuncData} (F : Fun K "is_derivation" "is_derivation" s_is_derivation f fd) (hm : mg "is_derivation" = some (.ref f)) (b : Binds K fd ["grammar", "text", "row"] []) :
    CalX P w K mg base CX0 3 "is_derivation" (spP K (m_is_derivation A)) :=
  ⟨f, fd, ["grammar", "text", "row"], F.ok sc_is_derivation (spP_len fun ds r h => (mOf_len h).1) (fun cdv A' outer s H vs Q E hr h => by
    refine ⟨_, (pss_cons (ps_set (i := 3) sc_is_derivation.nd rfl (Or.inl rfl) (pe_cx c_forms_until hr (by decide) pass0 (by rfl) (pa_cons (pv 0) (pa_cons (pv 2) pa_nil))))
 (pss_one (ps_ret (pe_and (pe_cmpR (r := rEqU K) (op_eqU hr.units) (pe_callB (r := rLenU K) call_lenU (by rfl) T.b_len PySem.boot_len (pa_cons (pv 3) pa_nil)) (pe_op (r := rAddU K) op_addU (pe_callB (r := rLenU K) call_lenU (by rfl) T.b_len PySem.boot_len (pa_cons (pv 2) pa_nil)) pe_int) (nomark _)) (pe_one (pe_cmpR (r := rEqU K) (op_eqU hr.units) (pe_ix (r := rIx K) ix_seq (pv 3) (pe_un un_neg pe_int) (fun _ _ => rfl)) (pe_callTy (r := rTupleU K) call_tupleU (by rfl) T.b_tuple PyProof.Rows.boot_tuple (pa_cons (pe_lc (own := [("letter", 4)]) rfl sc_is_derivation.nd (pi_seqU (pv 1)) (blkOk_by (N := N_is_derivation) (sc := defScope s_is_derivation) (by decide +kernel)) (fun _ _ _ _ _ => (pg_name (i := 4) sc_is_derivation.nd rfl (Or.inl rfl))) (fun _ _ _ _ _ => pts_nil) (fun _ _ _ _ _ => (pv 4))) pa_nil)) (nomark _))))))), run_def (E := E) rfl (fun W0 => ?_) h⟩
    exact (vs_seq (vs_asg (vt_call (va_cons (vt_var 0) (va_cons (vt_var 2) va_nil))) (vg_name 3))
 (vs_ret (vt_andV (b1 := false) (b2 := false) (vt_opS (b1 := false) (b2 := false) ros_eq (vt_cbS (b1 := false) rcs_len (va_cons (vt_look 3) va_nil)) (vt_op ro_add (vt_cbS (b1 := false) rcs_len (va_cons (vt_look 2) va_nil)) vt_int)) (vt_opS (b1 := false) (b2 := false) ros_eq (vt_ixv (i := 3) (b2 := false) (vt_neg (b1 := false) vt_int)) (vt_cb rc_tuple (va_cons (vt_vn (vn_lc (vi_seqU (vt_var 1)) (vg_name 4) (by decide) vb_yes (vt_var 4))) va_nil))))))), hm, F.kp, b⟩

theorem ok__law_beginnings_told (T : Txt K mg A) (c__law_asked : CalX P w K mg base CX0 5 "_law_asked" (spP K (m__law_asked A))) (c__law_forms_alike : CalX P w K mg base CX0 3 "_law_forms_alike" (spP K (m__law_forms_alike A))) (c_is_derivation : CalX P w K mg base CX0 3 "is_derivation" (spP K (m_is_derivation A))) {f : Addr} {fd : FuncData} (F : Fun K "_law_beginnings_told" "_law_beginnings_told" s__law_beginnings_told f fd) (hm : mg "_law_beginnings_told" = some (.ref f)) (b : Binds K fd ["grammar", "pairs", "whole", "goal"] []) :
    CalX P w K mg base CX0 6 "_law_beginnings_told" (spP K (m__law_beginnings_told A)) :=
  ⟨f, fd, ["grammar", "pairs", "whole", "goal"], F.ok sc__law_beginnings_told (spP_len fun ds r h => (mOf_len h).1) (fun cdv A' outer s H vs Q E hr h => by
    refine ⟨_, (pss_cons (ps_set (i := 4) sc__law_beginnings_told.nd rfl (Or.inl rfl) (pe_lst pa_nil))
 (pss_cons (ps_for PassesOwn.never rfl (pi_range1 (by rfl) T.b_range (pa_cons (pe_callB (call_minU rfl) (by rfl) T.b_min (by decide +kernel) (pa_cons (pe_callB (r := rLenU K) call_lenU (by rfl) T.b_len PySem.boot_len (pa_cons (pv 1) pa_nil)) (pa_cons pe_int pa_nil))) pa_nil)) (pg_name (i := 5) sc__law_beginnings_told.nd rfl (Or.inl rfl)) (pss_cons (ps_set (i := 6) sc__law_beginnings_told.nd rfl (Or.inl rfl) (pe_cx c__law_asked hr (by decide) pass0 (by rfl) (pa_cons pe_int (pa_cons (pv 0) (pa_cons (pv 4) pa_nil)))))
 (pss_cons (ps_if (PW.pt (pw_or (pt_cmpR (r := rNeU K) (op_neU hr.units) (pe_ix (r := rIx K) ix_seq (pv 6) pe_int (fun _ _ => rfl)) pe_str (nomark _)) (pw_or1 (pt_not (pt_truthK (K := K) rfl (pe_cx c__law_forms_alike hr (by decide) pass0 (by rfl) (pa_cons (pe_ix (r := rIx K) ix_seq (pv 6) pe_int (fun _ _ => rfl)) (pa_cons (pe_slice (r := rCutU K) sl_U (pv 2) po_none (po_some (pe_op (r := rAddU K) op_addU (pv 5) pe_int))) pa_nil))) (fun _ => rfl)))))) (pss_one (ps_ret pe_bl)) pss_nil)
 (pss_cons (ps_set (i := 6) sc__law_beginnings_told.nd rfl (Or.inl rfl) (pe_cx c_is_derivation hr (by decide) pass0 (by rfl) (pa_cons (pv 0) (pa_cons (pv 3) (pa_cons (pv 4) pa_nil)))))
 (pss_cons (ps_if (PW.pt (pw_or (pt_not (pt_truthK (K := K) rfl (pe_callB (r := rIsi K) call_isi (by rfl) T.b_isinstance (by decide +kernel) (pa_cons (pv 6) (pa_cons (pe_bltn (v := .ty "bool") (u := .type "bool") (by rfl) T.b_bool (by decide +kernel) rfl) pa_nil))) (fun _ => rfl))) (pw_or1 (pt_cmpR (r := rNeU K) (op_neU hr.units) (pv 6) (pe_cmpR (r := rEqU K) (op_eqU hr.units) (pe_ix (r := rIx K) ix_seq (pv 2) (pv 5) (fun _ _ => rfl)) (pe_callTy (r := rTupleU K) call_tupleU (by rfl) T.b_tuple PyProof.Rows.boot_tuple (pa_cons (pe_lc (own := [("letter", 7)]) rfl sc__law_beginnings_told.nd (pi_seqU (pv 3)) (blkOk_by (N := N__law_beginnings_told) (sc := defScope s__law_beginnings_told) (by decide +kernel)) (fun _ _ _ _ _ => (pg_name (i := 7) sc__law_beginnings_told.nd rfl (Or.inl rfl))) (fun _ _ _ _ _ => pts_nil) (fun _ _ _ _ _ => (pv 7))) pa_nil)) (nomark _)) (nomark _))))) (pss_one (ps_ret pe_bl)) pss_nil)
 (pss_one (ps_expr (pe_bm PySem.F.plainAttrs_list PySem.F.slot_list_append PySem.F.type_list_append mt_append (pv 4) (pa_cons (pe_ix (r := rIx K) ix_seq (pv 1) (pv 5) (fun _ _ => rfl)) pa_nil)))))))))
 (pss_one (ps_ret (pe_cmpR (r := rEqU K) (op_eqU hr.units) (pv 4) (pe_slice (r := rCutU K) sl_U (pv 1) po_none (po_some pe_int)) (nomark _)))))), run_def (E := E) rfl (fun W0 => ?_) h⟩
    exact (vs_seq (vs_asgN (i := 4) (vn_lst va_nil))
 (vs_seq (vs_for (vi_rg1 (b := false) (va_cons (vt_cbS (b1 := false) rcs_min (va_cons (vt_cbS (b1 := false) rcs_len (va_cons (vt_look 1) va_nil)) (va_cons vt_int va_nil))) va_nil)) (vg_name 5) (vs_seq (vs_asg (vt_imm (b' := false) (vt_call (va_cons vt_int (va_cons (vt_look 0) (va_cons (vt_look 4) va_nil))))) (vg_name 6))
 (vs_seq (vs_if (vb_or (vb_test (b := false) (vt_opS (b1 := false) (b2 := false) ros_ne (vt_ixv (i := 6) (b2 := false) vt_int) vt_str)) (vb_not (vb_tru (b := false) (vt_call (va_cons (vt_ixv (i := 6) (b2 := false) vt_int) (va_cons (vt_cut (vt_look 2) vo_none (vo_some (b := false) (vt_op ro_add (vt_look 5) vt_int))) va_nil)))))) (vs_ret vt_bl) vs_next)
 (vs_seq (vs_asg (vt_imm (b' := false) (vt_call (va_cons (vt_look 0) (va_cons (vt_look 3) (va_cons (vt_look 4) va_nil))))) (vg_name 6))
 (vs_seq (vs_if (vb_or (vb_not (vb_tru (b := false) (vt_isi (n := "bool") (b1 := false) (vt_look 6)))) (vb_test (b := false) (vt_opS (b1 := false) (b2 := false) ros_ne (vt_look 6) (vt_opS (b1 := false) (b2 := false) ros_eq (vt_ixv (i := 2) (b2 := false) (vt_look 5)) (vt_cb rc_tuple (va_cons (vt_vn (vn_lc (vi_seqU (vt_var 3)) (vg_name 7) (by decide) vb_yes (vt_var 7))) va_nil)))))) (vs_ret vt_bl) vs_next)
 (vs_append (i := 4) (vt_ixv (i := 1) (b2 := false) (vt_look 5))))))))
 (vs_ret (vt_opS (b1 := false) (b2 := false) ros_eq (vt_look 4) (vt_cut (vt_look 1) vo_none (vo_some (b := false) vt_int))))))), hm, F.kp, b⟩

theorem ok__law_cell (T : Txt K mg A)  {f : Addr} {fd : FuncData} (F : Fun K "_law_cell" "_law_cell" s__law_cell f fd) (hm : mg "_law_cell" = some (.ref f)) (b : Binds K fd ["script", "k"] []) :
    CalX P w K mg base CX0 1 "_law_cell" (spP K (m__law_cell A)) :=
  ⟨f, fd, ["script", "k"], F.ok sc__law_cell (spP_len fun ds r h => (mOf_len h).1) (fun cdv A' outer s H vs Q E hr h => by
    refine ⟨_, (pss_cons (ps_if (pt_cmpR op_ltU (pv 1) (pe_callB (r := rLenU K) call_lenU (by rfl) T.b_len PySem.boot_len (pa_cons (pv 0) pa_nil)) (nomark _)) (pss_one (ps_ret (pe_ix (r := rIx K) ix_seq (pv 0) (pv 1) (fun _ _ => rfl)))) pss_nil)
 (pss_cons (ps_set (i := 2) sc__law_cell.nd rfl (Or.inl rfl) pe_int)
 (pss_cons (ps_for PassesOwn.never rfl (pi_seqU (pv 0)) (pg_name (i := 3) sc__law_cell.nd rfl (Or.inl rfl)) (pss_one (ps_set (i := 2) sc__law_cell.nd rfl (Or.inl rfl) (pe_op op_mod (pe_callTy call_intU (by rfl) T.b_int PyProof.Rows.boot_int (pa_cons (pe_op (r := rAddU K) op_addU (pe_op op_mulU (pv 2) pe_int) (pe_op op_mod (pe_callTy call_intU (by rfl) T.b_int PyProof.Rows.boot_int (pa_cons (pv 3) pa_nil)) pe_int)) pa_nil)) pe_int))))
 (pss_one (ps_ret (pe_op op_mod (pe_callTy call_intU (by rfl) T.b_int PyProof.Rows.boot_int (pa_cons (pe_op op_mulU (pe_op op_mulU (pe_op (r := rAddU K) op_addU (pv 2) pe_int) (pe_op (r := rAddU K) op_addU (pv 1) pe_int)) pe_int) pa_nil)) pe_int)))))), run_def (E := E) rfl (fun W0 => ?_) h⟩
    exact (vs_seq (vs_if (vb_test (b := false) (vt_opS (b1 := false) (b2 := false) ros_cmp (vt_look 1) (vt_cbS (b1 := false) rcs_len (va_cons (vt_look 0) va_nil)))) (vs_ret (vt_ixv (i := 0) (b2 := false) (vt_look 1))) vs_next)
 (vs_seq (vs_asg vt_int (vg_name 2))
 (vs_seq (vs_for (vi_seqU (vt_var 0)) (vg_name 3) (vs_asg (vt_opS (b1 := false) (b2 := false) (ros_I (C := PosR) (f := fun i j => i % j)) (vt_cbS (b1 := false) rcs_int (va_cons (vt_op ro_add (vt_op ro_mul (vt_look 2) vt_int) (vt_opS (b1 := false) (b2 := false) (ros_I (C := PosR) (f := fun i j => i % j)) (vt_cbS (b1 := false) rcs_int (va_cons (vt_look 3) va_nil)) vt_int)) va_nil)) vt_int) (vg_name 2)))
 (vs_ret (vt_opS (b1 := false) (b2 := false) (ros_I (C := PosR) (f := fun i j => i % j)) (vt_cbS (b1 := false) rcs_int (va_cons (vt_op ro_mul (vt_op ro_mul (vt_op ro_add (vt_look 2) vt_int) (vt_op ro_add (vt_look 1) vt_int)) vt_int) va_nil)) vt_int)))))), hm, F.kp, b⟩

theorem ok__law_rewrite (T : Txt K mg A)  {f : Addr} {fd : FuncData} (F : Fun K "_law_rewrite" "_law_rewrite" s__law_rewrite f fd) (hm : mg "_law_rewrite" = some (.ref f)) (b : Binds K fd ["rules", "form", "number", "place"] []) :
    CalX P w K mg base CX0 1 "_law_rewrite" (spP K (m__law_rewrite A)) :=
  ⟨f, fd, ["rules", "form", "number", "place"], F.ok sc__law_rewrite (spP_len fun ds r h => (mOf_len h).1) (fun cdv A' outer s H vs Q E hr h => by
    refine ⟨_, (pss_cons (ps_if (PW.pt (pw_or (pt_cmpR op_ltU (pv 2) pe_int (nomark _)) (pw_or (pt_cmpR op_geU (pv 2) (pe_callB (r := rLenU K) call_lenU (by rfl) T.b_len PySem.boot_len (pa_cons (pv 0) pa_nil)) (nomark _)) (pw_or1 (pt_cmpR op_ltU (pv 3) pe_int (nomark _)))))) (pss_one (ps_ret pe_non)) pss_nil)
 (pss_cons (ps_set (i := 4) sc__law_rewrite.nd rfl (Or.inl rfl) (pe_ix (r := rIx K) ix_seq (pv 0) (pv 2) (fun _ _ => rfl)))
 (pss_cons (ps_if (pt_cmpR (r := rNeU K) (op_neU hr.units) (pe_slice (r := rCutU K) sl_U (pv 1) (po_some (pv 3)) (po_some (pe_op (r := rAddU K) op_addU (pv 3) (pe_callB (r := rLenU K) call_lenU (by rfl) T.b_len PySem.boot_len (pa_cons (pe_ix (r := rIx K) ix_seq (pv 4) pe_int (fun _ _ => rfl)) pa_nil))))) (pe_ix (r := rIx K) ix_seq (pv 4) pe_int (fun _ _ => rfl)) (nomark _)) (pss_one (ps_ret pe_non)) pss_nil)
 (pss_one (ps_ret (pe_op (r := rAddU K) op_addU (pe_op (r := rAddU K) op_addU (pe_slice (r := rCutU K) sl_U (pv 1) po_none (po_some (pv 3))) (pe_ix (r := rIx K) ix_seq (pv 4) pe_int (fun _ _ => rfl))) (pe_slice (r := rCutU K) sl_U (pv 1) (po_some (pe_op (r := rAddU K) op_addU (pv 3) (pe_callB (r := rLenU K) call_lenU (by rfl) T.b_len PySem.boot_len (pa_cons (pe_ix (r := rIx K) ix_seq (pv 4) pe_int (fun _ _ => rfl)) pa_nil)))) po_none))))))), run_def (E := E) rfl (fun W0 => ?_) h⟩
    exact (vs_seq (vs_if (vb_or (vb_test (b := false) (vt_opS (b1 := false) (b2 := false) ros_cmp (vt_look 2) vt_int)) (vb_or (vb_test (b := false) (vt_opS (b1 := false) (b2 := false) ros_cmp (vt_look 2) (vt_cbS (b1 := false) rcs_len (va_cons (vt_look 0) va_nil)))) (vb_test (b := false) (vt_opS (b1 := false) (b2 := false) ros_cmp (vt_look 3) vt_int)))) (vs_ret vt_non) vs_next)
 (vs_seq (vs_asg (vt_ixv (i := 0) (b2 := false) (vt_look 2)) (vg_name 4))
 (vs_seq (vs_if (vb_test (b := false) (vt_opS (b1 := false) (b2 := false) ros_ne (vt_cut (vt_look 1) (vo_some (b := false) (vt_look 3)) (vo_some (b := false) (vt_op ro_add (vt_look 3) (vt_cbS (b1 := false) rcs_len (va_cons (vt_ixv (i := 4) (b2 := false) vt_int) va_nil))))) (vt_ixv (i := 4) (b2 := false) vt_int))) (vs_ret vt_non) vs_next)
 (vs_ret (vt_op ro_add (vt_op ro_add (vt_cut (vt_var 1) vo_none (vo_some (b := false) (vt_look 3))) (vt_ixv (i := 4) (b2 := false) vt_int)) (vt_cut (vt_var 1) (vo_some (b := false) (vt_op ro_add (vt_look 3) (vt_cbS (b1 := false) rcs_len (va_cons (vt_ixv (i := 4) (b2 := false) vt_int) va_nil)))) vo_none))))))), hm, F.kp, b⟩

theorem ok__law_follow (T : Txt K mg A) (c__law_rewrite : CalX P w K mg base CX0 1 "_law_rewrite" (spP K (m__law_rewrite A))) {f : Addr} {fd : FuncData} (F : Fun K "_law_follow" "_law_follow" s__law_follow f fd) (hm : mg "_law_follow" = some (.ref f)) (b : Binds K fd ["rules", "pairs"] []) :
    CalX P w K mg base CX0 2 "_law_follow" (spP K (m__law_follow A)) :=
  ⟨f, fd, ["rules", "pairs"], F.ok sc__law_follow (spP_len fun ds r h => (mOf_len h).1) (fun cdv A' outer s H vs Q E hr h => by
    refine ⟨_, (pss_cons (ps_set (i := 2) sc__law_follow.nd rfl (Or.inl rfl) (pe_lst (pa_cons (pe_tup (pa_cons pe_int pa_nil)) pa_nil)))
 (pss_cons (ps_for PassesOwn.never rfl (pi_seqU (pv 1)) (pg_name (i := 3) sc__law_follow.nd rfl (Or.inl rfl)) (pss_cons (ps_set (i := 4) sc__law_follow.nd rfl (Or.inl rfl) (pe_cx c__law_rewrite hr (by decide) pass0 (by rfl) (pa_cons (pv 0) (pa_cons (pe_ix (r := rIx K) ix_seq (pv 2) (pe_op op_sub (pe_callB (r := rLenU K) call_lenU (by rfl) T.b_len PySem.boot_len (pa_cons (pv 2) pa_nil)) pe_int) (fun _ _ => rfl)) (pa_cons (pe_ix (r := rIx K) ix_seq (pv 3) pe_int (fun _ _ => rfl)) (pa_cons (pe_ix (r := rIx K) ix_seq (pv 3) pe_int (fun _ _ => rfl)) pa_nil))))))
 (pss_cons (ps_if (pt_cmpR op_isU (pv 4) pe_non (nomark _)) (pss_one ps_break) pss_nil)
 (pss_one (ps_expr (pe_bm PySem.F.plainAttrs_list PySem.F.slot_list_append PySem.F.type_list_append mt_append (pv 2) (pa_cons (pv 4) pa_nil)))))))
 (pss_one (ps_ret (pv 2))))), run_def (E := E) rfl (fun W0 => ?_) h⟩
    exact (vs_seq (vs_asgN (i := 2) (vn_lst (va_cons (vt_tup (va_cons vt_int va_nil)) va_nil)))
 (vs_seq (vs_for (vi_seqU (vt_var 1)) (vg_name 3) (vs_seq (vs_asg (vt_call (va_cons (vt_var 0) (va_cons (vt_ixv (i := 2) (b2 := false) (vt_opS (b1 := false) (b2 := false) ros_sub (vt_cbS (b1 := false) rcs_len (va_cons (vt_look 2) va_nil)) vt_int)) (va_cons (vt_ixv (i := 3) (b2 := false) vt_int) (va_cons (vt_ixv (i := 3) (b2 := false) vt_int) va_nil))))) (vg_name 4))
 (vs_seq (vs_if (vb_test (b := false) (vt_opS (b1 := false) (b2 := false) ros_is (vt_look 4) vt_non)) vs_break vs_next)
 (vs_append (i := 2) (vt_var 4)))))
 (vs_ret (vt_var 2))))), hm, F.kp, b⟩

theorem ok__law_changed_row (T : Txt K mg A) (c__law_follow : CalX P w K mg base CX0 2 "_law_follow" (spP K (m__law_follow A))) {f : Addr} {fd : FuncData} (F : Fun K "_law_changed_row" "_law_changed_row" s__law_changed_row f fd) (hm : mg "_law_changed_row" = some (.ref f)) (b : Binds K fd ["rules", "pairs", "row"] []) :
    CalX P w K mg base CX0 3 "_law_changed_row" (spP K (m__law_changed_row A)) :=
  ⟨f, fd, ["rules", "pairs", "row"], F.ok sc__law_changed_row (spP_len fun ds r h => (mOf_len h).1) (fun cdv A' outer s H vs Q E hr h => by
    refine ⟨_, (pss_cons (ps_set (i := 3) sc__law_changed_row.nd rfl (Or.inl rfl) (pe_op op_mod (pe_callTy call_intU (by rfl) T.b_int PyProof.Rows.boot_int (pa_cons (pe_ix (r := rIx K) ix_seq (pv 2) pe_int (fun _ _ => rfl)) pa_nil)) (pe_callB (r := rLenU K) call_lenU (by rfl) T.b_len PySem.boot_len (pa_cons (pv 1) pa_nil))))
 (pss_cons (ps_set (i := 4) sc__law_changed_row.nd rfl (Or.inl rfl) (pe_cx c__law_follow hr (by decide) pass0 (by rfl) (pa_cons (pv 0) (pa_cons (pv 1) pa_nil))))
 (pss_cons (ps_set (i := 5) sc__law_changed_row.nd rfl (Or.inl rfl) (pe_ix (r := rIx K) ix_seq (pe_ix (r := rIx K) ix_seq (pv 1) (pv 3) (fun _ _ => rfl)) pe_int (fun _ _ => rfl)))
 (pss_cons (ps_set (i := 6) sc__law_changed_row.nd rfl (Or.inl rfl) (pe_ix (r := rIx K) ix_seq (pe_ix (r := rIx K) ix_seq (pv 1) (pv 3) (fun _ _ => rfl)) pe_int (fun _ _ => rfl)))
 (pss_cons (ps_if (pt_cmpR (r := rEqU K) (op_eqU hr.units) (pe_ix (r := rIx K) ix_seq (pv 2) pe_int (fun _ _ => rfl)) pe_int (nomark _)) (pss_one (ps_ret (pe_op (r := rAddU K) op_addU (pe_slice (r := rCutU K) sl_U (pv 1) po_none (po_some (pv 3))) (pe_slice (r := rCutU K) sl_U (pv 1) (po_some (pe_op (r := rAddU K) op_addU (pv 3) pe_int)) po_none)))) pss_nil)
 (pss_cons (ps_if (pt_cmpR (r := rEqU K) (op_eqU hr.units) (pe_ix (r := rIx K) ix_seq (pv 2) pe_int (fun _ _ => rfl)) pe_int (nomark _)) (pss_one (ps_ret (pe_op (r := rAddU K) op_addU (pe_slice (r := rCutU K) sl_U (pv 1) po_none (po_some (pe_op (r := rAddU K) op_addU (pv 3) pe_int))) (pe_slice (r := rCutU K) sl_U (pv 1) (po_some (pv 3)) po_none)))) pss_nil)
 (pss_cons (ps_if (pt_cmpR (r := rEqU K) (op_eqU hr.units) (pe_ix (r := rIx K) ix_seq (pv 2) pe_int (fun _ _ => rfl)) pe_int (nomark _)) (pss_one (ps_ret (pe_op (r := rAddU K) op_addU (pe_op (r := rAddU K) op_addU (pe_op (r := rAddU K) op_addU (pe_slice (r := rCutU K) sl_U (pv 1) po_none (po_some (pv 3))) (pe_slice (r := rCutU K) sl_U (pv 1) (po_some (pe_op (r := rAddU K) op_addU (pv 3) pe_int)) (po_some (pe_op (r := rAddU K) op_addU (pv 3) pe_int)))) (pe_lst (pa_cons (pe_ix (r := rIx K) ix_seq (pv 1) (pv 3) (fun _ _ => rfl)) pa_nil))) (pe_slice (r := rCutU K) sl_U (pv 1) (po_some (pe_op (r := rAddU K) op_addU (pv 3) pe_int)) po_none)))) pss_nil)
 (pss_cons (ps_set (i := 7) sc__law_changed_row.nd rfl (Or.inl rfl) (pe_lst (pa_cons (pe_tup (pa_cons (pe_op op_sub (pv 5) (pe_callB (r := rLenU K) call_lenU (by rfl) T.b_len PySem.boot_len (pa_cons (pv 0) pa_nil))) (pa_cons (pv 6) pa_nil))) (pa_cons (pe_tup (pa_cons (pv 5) (pa_cons (pe_op op_sub (pv 6) (pe_callB (r := rLenU K) call_lenU (by rfl) T.b_len PySem.boot_len (pa_cons (pe_ix (r := rIx K) ix_seq (pv 4) (pv 3) (fun _ _ => rfl)) pa_nil))) pa_nil))) (pa_cons (pe_tup (pa_cons (pe_callB (r := rLenU K) call_lenU (by rfl) T.b_len PySem.boot_len (pa_cons (pv 0) pa_nil)) (pa_cons (pv 6) pa_nil))) pa_nil)))))
 (pss_cons (ps_set (i := 7) sc__law_changed_row.nd rfl (Or.inl rfl) (pe_op (r := rAddU K) op_addU (pv 7) (pe_lst (pa_cons (pe_tup (pa_cons (pv 5) (pa_cons (pe_callB (r := rLenU K) call_lenU (by rfl) T.b_len PySem.boot_len (pa_cons (pe_ix (r := rIx K) ix_seq (pv 4) (pv 3) (fun _ _ => rfl)) pa_nil)) pa_nil))) (pa_cons (pe_tup (pa_cons (pe_op op_mod (pe_callTy call_intU (by rfl) T.b_int PyProof.Rows.boot_int (pa_cons (pe_ix (r := rIx K) ix_seq (pv 2) pe_int (fun _ _ => rfl)) pa_nil)) (pe_callB (r := rLenU K) call_lenU (by rfl) T.b_len PySem.boot_len (pa_cons (pv 0) pa_nil))) (pa_cons (pv 6) pa_nil))) (pa_cons (pe_tup (pa_cons (pv 5) (pa_cons (pe_op op_mod (pe_callTy call_intU (by rfl) T.b_int PyProof.Rows.boot_int (pa_cons (pe_ix (r := rIx K) ix_seq (pv 2) pe_int (fun _ _ => rfl)) pa_nil)) (pe_callB (r := rLenU K) call_lenU (by rfl) T.b_len PySem.boot_len (pa_cons (pe_ix (r := rIx K) ix_seq (pv 4) (pv 3) (fun _ _ => rfl)) pa_nil))) pa_nil))) pa_nil))))))
 (pss_cons (ps_set (i := 7) sc__law_changed_row.nd rfl (Or.inl rfl) (pe_op (r := rAddU K) op_addU (pv 7) (pe_lst (pa_cons (pe_tup (pa_cons (pe_op (r := rAddU K) op_addU (pe_callB (r := rLenU K) call_lenU (by rfl) T.b_len PySem.boot_len (pa_cons (pv 0) pa_nil)) (pe_ix (r := rIx K) ix_seq (pv 2) pe_int (fun _ _ => rfl))) (pa_cons (pv 6) pa_nil))) (pa_cons (pe_tup (pa_cons (pv 5) (pa_cons (pe_op (r := rAddU K) op_addU (pe_callB (r := rLenU K) call_lenU (by rfl) T.b_len PySem.boot_len (pa_cons (pe_ix (r := rIx K) ix_seq (pv 4) (pv 3) (fun _ _ => rfl)) pa_nil)) (pe_ix (r := rIx K) ix_seq (pv 2) pe_int (fun _ _ => rfl))) pa_nil))) (pa_cons (pe_tup (pa_cons (pe_un un_neg pe_int) (pa_cons (pv 6) pa_nil))) (pa_cons (pe_tup (pa_cons (pv 5) (pa_cons (pe_op op_sub (pe_un un_neg pe_int) (pe_ix (r := rIx K) ix_seq (pv 2) pe_int (fun _ _ => rfl))) pa_nil))) pa_nil)))))))
 (pss_one (ps_ret (pe_op (r := rAddU K) op_addU (pe_op (r := rAddU K) op_addU (pe_slice (r := rCutU K) sl_U (pv 1) po_none (po_some (pv 3))) (pe_lst (pa_cons (pe_ix (r := rIx K) ix_seq (pv 7) (pe_ix (r := rIx K) ix_seq (pv 2) pe_int (fun _ _ => rfl)) (fun _ _ => rfl)) pa_nil))) (pe_slice (r := rCutU K) sl_U (pv 1) (po_some (pe_op (r := rAddU K) op_addU (pv 3) pe_int)) po_none)))))))))))))), run_def (E := E) rfl (fun W0 => ?_) h⟩
    exact (vs_seq (vs_asg (vt_opS (b1 := false) (b2 := false) (ros_I (C := PosR) (f := fun i j => i % j)) (vt_cbS (b1 := false) rcs_int (va_cons (vt_ixv (i := 2) (b2 := false) vt_int) va_nil)) (vt_cbS (b1 := false) rcs_len (va_cons (vt_look 1) va_nil))) (vg_name 3))
 (vs_seq (vs_asg (vt_call (va_cons (vt_var 0) (va_cons (vt_var 1) va_nil))) (vg_name 4))
 (vs_seq (vs_asg (vt_op ro_ix (vt_ixv (i := 1) (b2 := false) (vt_look 3)) vt_int) (vg_name 5))
 (vs_seq (vs_asg (vt_op ro_ix (vt_ixv (i := 1) (b2 := false) (vt_look 3)) vt_int) (vg_name 6))
 (vs_seq (vs_if (vb_test (b := false) (vt_opS (b1 := false) (b2 := false) ros_eq (vt_ixv (i := 2) (b2 := false) vt_int) vt_int)) (vs_ret (vt_op ro_add (vt_cut (vt_var 1) vo_none (vo_some (b := false) (vt_look 3))) (vt_cut (vt_var 1) (vo_some (b := false) (vt_op ro_add (vt_look 3) vt_int)) vo_none))) vs_next)
 (vs_seq (vs_if (vb_test (b := false) (vt_opS (b1 := false) (b2 := false) ros_eq (vt_ixv (i := 2) (b2 := false) vt_int) vt_int)) (vs_ret (vt_op ro_add (vt_cut (vt_var 1) vo_none (vo_some (b := false) (vt_op ro_add (vt_look 3) vt_int))) (vt_cut (vt_var 1) (vo_some (b := false) (vt_look 3)) vo_none))) vs_next)
 (vs_seq (vs_if (vb_test (b := false) (vt_opS (b1 := false) (b2 := false) ros_eq (vt_ixv (i := 2) (b2 := false) vt_int) vt_int)) (vs_ret (vt_op ro_add (vt_op ro_add (vt_op ro_add (vt_cut (vt_var 1) vo_none (vo_some (b := false) (vt_look 3))) (vt_cut (vt_var 1) (vo_some (b := false) (vt_op ro_add (vt_look 3) vt_int)) (vo_some (b := false) (vt_op ro_add (vt_look 3) vt_int)))) (vt_vn (vn_lst (va_cons (vt_ixv (i := 1) (b2 := false) (vt_look 3)) va_nil)))) (vt_cut (vt_var 1) (vo_some (b := false) (vt_op ro_add (vt_look 3) vt_int)) vo_none))) vs_next)
 (vs_seq (vs_asg (vt_vn (vn_lst (va_cons (vt_tup (va_cons (vt_opS (b1 := false) (b2 := false) ros_sub (vt_look 5) (vt_cbS (b1 := false) rcs_len (va_cons (vt_look 0) va_nil))) (va_cons (vt_var 6) va_nil))) (va_cons (vt_tup (va_cons (vt_var 5) (va_cons (vt_opS (b1 := false) (b2 := false) ros_sub (vt_look 6) (vt_cbS (b1 := false) rcs_len (va_cons (vt_ixv (i := 4) (b2 := false) (vt_look 3)) va_nil))) va_nil))) (va_cons (vt_tup (va_cons (vt_cbS (b1 := false) rcs_len (va_cons (vt_look 0) va_nil)) (va_cons (vt_var 6) va_nil))) va_nil))))) (vg_name 7))
 (vs_seq (vs_asg (vt_op ro_add (vt_var 7) (vt_vn (vn_lst (va_cons (vt_tup (va_cons (vt_var 5) (va_cons (vt_cbS (b1 := false) rcs_len (va_cons (vt_ixv (i := 4) (b2 := false) (vt_look 3)) va_nil)) va_nil))) (va_cons (vt_tup (va_cons (vt_opS (b1 := false) (b2 := false) (ros_I (C := PosR) (f := fun i j => i % j)) (vt_cbS (b1 := false) rcs_int (va_cons (vt_ixv (i := 2) (b2 := false) vt_int) va_nil)) (vt_cbS (b1 := false) rcs_len (va_cons (vt_look 0) va_nil))) (va_cons (vt_var 6) va_nil))) (va_cons (vt_tup (va_cons (vt_var 5) (va_cons (vt_opS (b1 := false) (b2 := false) (ros_I (C := PosR) (f := fun i j => i % j)) (vt_cbS (b1 := false) rcs_int (va_cons (vt_ixv (i := 2) (b2 := false) vt_int) va_nil)) (vt_cbS (b1 := false) rcs_len (va_cons (vt_ixv (i := 4) (b2 := false) (vt_look 3)) va_nil))) va_nil))) va_nil)))))) (vg_name 7))
 (vs_seq (vs_asg (vt_op ro_add (vt_var 7) (vt_vn (vn_lst (va_cons (vt_tup (va_cons (vt_op ro_add (vt_cbS (b1 := false) rcs_len (va_cons (vt_look 0) va_nil)) (vt_ixv (i := 2) (b2 := false) vt_int)) (va_cons (vt_var 6) va_nil))) (va_cons (vt_tup (va_cons (vt_var 5) (va_cons (vt_op ro_add (vt_cbS (b1 := false) rcs_len (va_cons (vt_ixv (i := 4) (b2 := false) (vt_look 3)) va_nil)) (vt_ixv (i := 2) (b2 := false) vt_int)) va_nil))) (va_cons (vt_tup (va_cons (vt_neg (b1 := false) vt_int) (va_cons (vt_var 6) va_nil))) (va_cons (vt_tup (va_cons (vt_var 5) (va_cons (vt_opS (b1 := false) (b2 := false) ros_sub (vt_neg (b1 := false) vt_int) (vt_ixv (i := 2) (b2 := false) vt_int)) va_nil))) va_nil))))))) (vg_name 7))
 (vs_ret (vt_op ro_add (vt_op ro_add (vt_cut (vt_var 1) vo_none (vo_some (b := false) (vt_look 3))) (vt_vn (vn_lst (va_cons (vt_ixv (i := 7) (b2 := false) (vt_ixv (i := 2) (b2 := false) vt_int)) va_nil)))) (vt_cut (vt_var 1) (vo_some (b := false) (vt_op ro_add (vt_look 3) vt_int)) vo_none)))))))))))))), hm, F.kp, b⟩

theorem ok__law_choices (T : Txt K mg A) (c__law_rewrite : CalX P w K mg base CX0 1 "_law_rewrite" (spP K (m__law_rewrite A))) {f : Addr} {fd : FuncData} (F : Fun K "_law_choices" "_law_choices" s__law_choices f fd) (hm : mg "_law_choices" = some (.ref f)) (b : Binds K fd ["rules", "form"] []) :
    CalX P w K mg base CX0 2 "_law_choices" (spP K (m__law_choices A)) :=
  ⟨f, fd, ["rules", "form"], F.ok sc__law_choices (spP_len fun ds r h => (mOf_len h).1) (fun cdv A' outer s H vs Q E hr h => by
    refine ⟨_, (pss_cons (ps_set (i := 2) sc__law_choices.nd rfl (Or.inl rfl) (pe_lst pa_nil))
 (pss_cons (ps_for PassesOwn.never rfl (pi_range1 (by rfl) T.b_range (pa_cons (pe_callB (r := rLenU K) call_lenU (by rfl) T.b_len PySem.boot_len (pa_cons (pv 0) pa_nil)) pa_nil)) (pg_name (i := 3) sc__law_choices.nd rfl (Or.inl rfl)) (pss_one (ps_for PassesOwn.never rfl (pi_range1 (by rfl) T.b_range (pa_cons (pe_callB (r := rLenU K) call_lenU (by rfl) T.b_len PySem.boot_len (pa_cons (pv 1) pa_nil)) pa_nil)) (pg_name (i := 4) sc__law_choices.nd rfl (Or.inl rfl)) (pss_one (ps_if (PW.pt (pw_and (pt_cmpR (r := rEqU K) (op_eqU hr.units) (pe_ix (r := rIx K) ix_seq (pv 1) (pv 4) (fun _ _ => rfl)) (pe_ix (r := rIx K) ix_seq (pe_ix (r := rIx K) ix_seq (pe_ix (r := rIx K) ix_seq (pv 0) (pv 3) (fun _ _ => rfl)) pe_int (fun _ _ => rfl)) pe_int (fun _ _ => rfl)) (nomark _)) (pw_and1 (pt_cmpR op_isNotU (pe_cx c__law_rewrite hr (by decide) pass0 (by rfl) (pa_cons (pv 0) (pa_cons (pv 1) (pa_cons (pv 3) (pa_cons (pv 4) pa_nil))))) pe_non (nomark _))))) (pss_one (ps_expr (pe_bm PySem.F.plainAttrs_list PySem.F.slot_list_append PySem.F.type_list_append mt_append (pv 2) (pa_cons (pe_tup (pa_cons (pv 3) (pa_cons (pv 4) pa_nil))) pa_nil)))) pss_nil)))))
 (pss_one (ps_ret (pv 2))))), run_def (E := E) rfl (fun W0 => ?_) h⟩
    exact (vs_seq (vs_asgN (i := 2) (vn_lst va_nil))
 (vs_seq (vs_for (vi_rg1 (b := false) (va_cons (vt_cbS (b1 := false) rcs_len (va_cons (vt_look 0) va_nil)) va_nil)) (vg_name 3) (vs_for (vi_rg1 (b := false) (va_cons (vt_cbS (b1 := false) rcs_len (va_cons (vt_look 1) va_nil)) va_nil)) (vg_name 4) (vs_if (vb_and (vb_test (b := false) (vt_opS (b1 := false) (b2 := false) ros_eq (vt_ixv (i := 1) (b2 := false) (vt_look 4)) (vt_op ro_ix (vt_op ro_ix (vt_ixv (i := 0) (b2 := false) (vt_look 3)) vt_int) vt_int))) (vb_test (b := false) (vt_opS (b1 := false) (b2 := false) ros_isNot (vt_call (va_cons (vt_look 0) (va_cons (vt_look 1) (va_cons (vt_look 3) (va_cons (vt_look 4) va_nil))))) vt_non))) (vs_append (i := 2) (vt_tup (va_cons (vt_var 3) (va_cons (vt_var 4) va_nil)))) vs_next)))
 (vs_ret (vt_var 2))))), hm, F.kp, b⟩

theorem ok__law_spots (T : Txt K mg A)  {f : Addr} {fd : FuncData} (F : Fun K "_law_spots" "_law_spots" s__law_spots f fd) (hm : mg "_law_spots" = some (.ref f)) (b : Binds K fd ["form"] []) :
    CalX P w K mg base CX0 1 "_law_spots" (spP K (m__law_spots A)) :=
  ⟨f, fd, ["form"], F.ok sc__law_spots (spP_len fun ds r h => (mOf_len h).1) (fun cdv A' outer s H vs Q E hr h => by
    refine ⟨_, (pss_one (ps_ret (pe_lc (own := [("k", 1)]) rfl sc__law_spots.nd (pi_range1 (by rfl) T.b_range (pa_cons (pe_callB (r := rLenU K) call_lenU (by rfl) T.b_len PySem.boot_len (pa_cons (pv 0) pa_nil)) pa_nil)) (blkOk_by (N := N__law_spots) (sc := defScope s__law_spots) (by decide +kernel)) (fun _ _ _ _ _ => (pg_name (i := 1) sc__law_spots.nd rfl (Or.inl rfl))) (fun _ _ _ _ _ => (pts_one (pt_not (pt_truthK (K := K) rfl (pe_callB (r := rIsi K) call_isi (by rfl) T.b_isinstance (by decide +kernel) (pa_cons (pe_ix (r := rIx K) ix_seq (pv 0) (pv 1) (fun _ _ => rfl)) (pa_cons (pe_bltn (v := .ty "str") (u := .type "str") (by rfl) T.b_str (by decide +kernel) rfl) pa_nil))) (fun _ => rfl))))) (fun _ _ _ _ _ => (pv 1))))), run_def (E := E) rfl (fun W0 => ?_) h⟩
    exact (vs_ret (vt_vn (vn_lc (vi_rg1 (b := false) (va_cons (vt_cbS (b1 := false) rcs_len (va_cons (vt_look 0) va_nil)) va_nil)) (vg_name 1) (by decide) (vb_not (vb_tru (b := false) (vt_isi (n := "str") (b1 := false) (vt_ixv (i := 0) (b2 := false) (vt_look 1))))) (vt_var 1))))), hm, F.kp, b⟩

theorem ok__law_closes (T : Txt K mg A) (c__law_spots : CalX P w K mg base CX0 1 "_law_spots" (spP K (m__law_spots A))) {f : Addr} {fd : FuncData} (F : Fun K "_law_closes" "_law_closes" s__law_closes f fd) (hm : mg "_law_closes" = some (.ref f)) (b : Binds K fd ["rule"] []) :
    CalX P w K mg base CX0 2 "_law_closes" (spP K (m__law_closes A)) :=
  ⟨f, fd, ["rule"], F.ok sc__law_closes (spP_len fun ds r h => (mOf_len h).1) (fun cdv A' outer s H vs Q E hr h => by
    refine ⟨_, (pss_one (ps_ret (pe_and (pe_cmpR (r := rEqU K) (op_eqU hr.units) (pe_callB (r := rLenU K) call_lenU (by rfl) T.b_len PySem.boot_len (pa_cons (pe_ix (r := rIx K) ix_seq (pv 0) pe_int (fun _ _ => rfl)) pa_nil)) pe_int (nomark _)) (pe_one (pe_cmpR (r := rEqU K) (op_eqU hr.units) (pe_callB (r := rLenU K) call_lenU (by rfl) T.b_len PySem.boot_len (pa_cons (pe_cx c__law_spots hr (by decide) pass0 (by rfl) (pa_cons (pe_ix (r := rIx K) ix_seq (pv 0) pe_int (fun _ _ => rfl)) pa_nil)) pa_nil)) pe_int (nomark _)))))), run_def (E := E) rfl (fun W0 => ?_) h⟩
    exact (vs_ret (vt_andV (b1 := false) (b2 := false) (vt_opS (b1 := false) (b2 := false) ros_eq (vt_cbS (b1 := false) rcs_len (va_cons (vt_ixv (i := 0) (b2 := false) vt_int) va_nil)) vt_int) (vt_opS (b1 := false) (b2 := false) ros_eq (vt_cbS (b1 := false) rcs_len (va_cons (vt_call (va_cons (vt_ixv (i := 0) (b2 := false) vt_int) va_nil)) va_nil)) vt_int)))), hm, F.kp, b⟩

theorem ok__law_drawn_row (T : Txt K mg A) (c__law_cell : CalX P w K mg base CX0 1 "_law_cell" (spP K (m__law_cell A))) (c__law_choices : CalX P w K mg base CX0 2 "_law_choices" (spP K (m__law_choices A))) (c__law_closes : CalX P w K mg base CX0 2 "_law_closes" (spP K (m__law_closes A))) (c__law_digits : CalX P w K mg base CX0 1 "_law_digits" (spP K (m__law_digits A))) (c__law_rewrite : CalX P w K mg base CX0 1 "_law_rewrite" (spP K (m__law_rewrite A))) (c__law_spots : CalX P w K mg base CX0 1 "_law_spots" (spP K (m__law_spots A))) {f : Addr} {fd : FuncData} (F : Fun K "_law_drawn_row" "_law_drawn_row" s__law_drawn_row f fd) (hm : mg "_law_drawn_row" = some (.ref f)) (b : Binds K fd ["script", "rules"] []) :
    CalX P w K mg base CX0 3 "_law_drawn_row" (spP K (m__law_drawn_row A)) :=
  ⟨f, fd, ["script", "rules"], F.ok sc__law_drawn_row (spP_len fun ds r h => (mOf_len h).1) (fun cdv A' outer s H vs Q E hr h => by
    refine ⟨_, (pss_cons (ps_set (i := 2) sc__law_drawn_row.nd rfl (Or.inl rfl) (pe_cx c__law_digits hr (by decide) pass0 (by rfl) (pa_cons (pe_cx c__law_cell hr (by decide) pass0 (by rfl) (pa_cons (pv 0) (pa_cons pe_int pa_nil))) (pa_cons (pe_lst (pa_cons pe_int (pa_cons pe_int (pa_cons pe_int pa_nil)))) pa_nil))))
 (pss_cons (ps_set (i := 3) sc__law_drawn_row.nd rfl (Or.inl rfl) (pe_cx c__law_digits hr (by decide) pass0 (by rfl) (pa_cons (pe_cx c__law_cell hr (by decide) pass0 (by rfl) (pa_cons (pv 0) (pa_cons pe_int pa_nil))) (pa_cons (pe_op op_mulU (pe_lst (pa_cons pe_int pa_nil)) pe_int) pa_nil))))
 (pss_cons (ps_set (i := 4) sc__law_drawn_row.nd rfl (Or.inl rfl) (pe_lst pa_nil))
 (pss_cons (ps_set (i := 5) sc__law_drawn_row.nd rfl (Or.inr rfl) (pe_tup (pa_cons pe_int pa_nil)))
 (pss_cons (ps_set (i := 6) sc__law_drawn_row.nd rfl (Or.inl rfl) (pe_op (r := rAddU K) op_addU pe_int (pe_ix (r := rIx K) ix_seq (pv 2) pe_int (fun _ _ => rfl))))
 (pss_cons (ps_if (pt_cmpR (r := rEqU K) (op_eqU hr.units) (pe_ix (r := rIx K) ix_seq (pv 2) pe_int (fun _ _ => rfl)) pe_int (nomark _)) (pss_one (ps_set (i := 6) sc__law_drawn_row.nd rfl (Or.inl rfl) pe_int)) pss_nil)
 (pss_cons (ps_for PassesOwn.never rfl (pi_range1 (by rfl) T.b_range (pa_cons (pv 6) pa_nil)) (pg_name (i := 7) sc__law_drawn_row.nd rfl (Or.inl rfl)) (pss_cons (ps_set (i := 8) sc__law_drawn_row.nd rfl (Or.inl rfl) (pe_cx c__law_choices hr (by decide) pass0 (by rfl) (pa_cons (pv 1) (pa_cons (pv 5) pa_nil))))
 (pss_cons (ps_setLc (i := 9) (own := [("pair", 12)]) rfl sc__law_drawn_row.nd rfl rfl (sw_true rfl rfl rfl (by decide +kernel)) (pi_seqU (pv 8)) (blkOk_by (N := N__law_drawn_row) (sc := defScope s__law_drawn_row) (by decide +kernel)) (fun _ _ _ _ _ => (pg_name (i := 12) sc__law_drawn_row.nd rfl (Or.inl rfl))) (fun _ _ _ _ _ => (pts_one (pt_not (pt_truthK (K := K) rfl (pe_cx c__law_closes hr (by decide) pass0 (by rfl) (pa_cons (pe_ix (r := rIx K) ix_seq (pv 1) (pe_ix (r := rIx K) ix_seq (pv 12) pe_int (fun _ _ => rfl)) (fun _ _ => rfl)) pa_nil)) (fun _ => rfl))))) (fun _ _ _ _ _ => (pv 12)))
 (pss_cons (ps_setLc (i := 10) (own := [("pair", 12)]) rfl sc__law_drawn_row.nd rfl rfl (sw_true rfl rfl rfl (by decide +kernel)) (pi_seqU (pv 8)) (blkOk_by (N := N__law_drawn_row) (sc := defScope s__law_drawn_row) (by decide +kernel)) (fun _ _ _ _ _ => (pg_name (i := 12) sc__law_drawn_row.nd rfl (Or.inl rfl))) (fun _ _ _ _ _ => (pts_one (pt_cmpR op_gtU (pe_callB (r := rLenU K) call_lenU (by rfl) T.b_len PySem.boot_len (pa_cons (pe_ix (r := rIx K) ix_seq (pe_ix (r := rIx K) ix_seq (pv 1) (pe_ix (r := rIx K) ix_seq (pv 12) pe_int (fun _ _ => rfl)) (fun _ _ => rfl)) pe_int (fun _ _ => rfl)) pa_nil)) pe_int (nomark _)))) (fun _ _ _ _ _ => (pv 12)))
 (pss_cons (ps_set (i := 11) sc__law_drawn_row.nd rfl (Or.inl rfl) (pe_callTy call_intU (by rfl) T.b_int PyProof.Rows.boot_int (pa_cons (pe_op (r := rAddU K) op_addU (pe_ix (r := rIx K) ix_seq (pv 3) (pe_op op_mod (pe_callTy call_intU (by rfl) T.b_int PyProof.Rows.boot_int (pa_cons (pv 7) pa_nil)) pe_int) (fun _ _ => rfl)) (pe_op op_mulU pe_int (pv 7))) pa_nil)))
 (pss_cons (ps_if (PW.pt (pw_and (pt_cmpR op_gtU (pe_callB (r := rLenU K) call_lenU (by rfl) T.b_len PySem.boot_len (pa_cons (pv 10) pa_nil)) pe_int (nomark _)) (pw_and1 (pt_cmpR op_gtU (pe_op op_mod (pe_callTy call_intU (by rfl) T.b_int PyProof.Rows.boot_int (pa_cons (pv 11) pa_nil)) pe_int) pe_int (nomark _))))) (pss_one (ps_set (i := 8) sc__law_drawn_row.nd rfl (Or.inl rfl) (pv 10))) (pss_one (ps_if (PW.pt (pw_and (pt_cmpR op_gtU (pe_callB (r := rLenU K) call_lenU (by rfl) T.b_len PySem.boot_len (pa_cons (pv 9) pa_nil)) pe_int (nomark _)) (pw_and1 (pt_cmpR op_gtU (pe_op op_mod (pe_callTy call_intU (by rfl) T.b_int PyProof.Rows.boot_int (pa_cons (pv 11) pa_nil)) pe_int) pe_int (nomark _))))) (pss_one (ps_set (i := 8) sc__law_drawn_row.nd rfl (Or.inl rfl) (pv 9))) pss_nil)))
 (pss_cons (ps_if (pt_cmpR (r := rEqU K) (op_eqU hr.units) (pe_callB (r := rLenU K) call_lenU (by rfl) T.b_len PySem.boot_len (pa_cons (pv 8) pa_nil)) pe_int (nomark _)) (pss_one ps_break) pss_nil)
 (pss_cons (ps_set (i := 12) sc__law_drawn_row.nd rfl (Or.inl rfl) (pe_ix (r := rIx K) ix_seq (pv 8) (pe_op op_mod (pe_callTy call_intU (by rfl) T.b_int PyProof.Rows.boot_int (pa_cons (pe_op op_fdivW (pv 11) pe_int) pa_nil)) (pe_callB (r := rLenU K) call_lenU (by rfl) T.b_len PySem.boot_len (pa_cons (pv 8) pa_nil))) (fun _ _ => rfl)))
 (pss_cons (ps_expr (pe_bm PySem.F.plainAttrs_list PySem.F.slot_list_append PySem.F.type_list_append mt_append (pv 4) (pa_cons (pv 12) pa_nil)))
 (pss_one (ps_set (i := 5) sc__law_drawn_row.nd rfl (Or.inr rfl) (pe_cx c__law_rewrite hr (by decide) pass0 (by rfl) (pa_cons (pv 1) (pa_cons (pv 5) (pa_cons (pe_ix (r := rIx K) ix_seq (pv 12) pe_int (fun _ _ => rfl)) (pa_cons (pe_ix (r := rIx K) ix_seq (pv 12) pe_int (fun _ _ => rfl)) pa_nil))))))))))))))))
 (pss_cons (ps_for PassesOwn.never rfl (pi_range1 (by rfl) T.b_range (pa_cons pe_int pa_nil)) (pg_name (i := 7) sc__law_drawn_row.nd rfl (Or.inl rfl)) (pss_cons (ps_set (i := 13) sc__law_drawn_row.nd rfl (Or.inl rfl) (pe_cx c__law_spots hr (by decide) pass0 (by rfl) (pa_cons (pv 5) pa_nil)))
 (pss_cons (ps_if (pt_cmpR (r := rEqU K) (op_eqU hr.units) (pe_callB (r := rLenU K) call_lenU (by rfl) T.b_len PySem.boot_len (pa_cons (pv 13) pa_nil)) pe_int (nomark _)) (pss_one ps_break) pss_nil)
 (pss_cons (ps_set (i := 14) sc__law_drawn_row.nd rfl (Or.inr rfl) (pe_ix (r := rIx K) ix_seq (pv 13) (pe_op op_mod (pe_callTy call_intU (by rfl) T.b_int PyProof.Rows.boot_int (pa_cons (pe_op (r := rAddU K) op_addU (pe_ix (r := rIx K) ix_seq (pv 2) pe_int (fun _ _ => rfl)) (pe_op op_mulU pe_int (pv 7))) pa_nil)) (pe_callB (r := rLenU K) call_lenU (by rfl) T.b_len PySem.boot_len (pa_cons (pv 13) pa_nil))) (fun _ _ => rfl)))
 (pss_cons (ps_setLc (i := 15) (own := [("j", 16)]) rfl sc__law_drawn_row.nd rfl rfl (sw_true rfl rfl rfl (by decide +kernel)) (pi_range1 (by rfl) T.b_range (pa_cons (pe_callB (r := rLenU K) call_lenU (by rfl) T.b_len PySem.boot_len (pa_cons (pv 1) pa_nil)) pa_nil)) (blkOk_by (N := N__law_drawn_row) (sc := defScope s__law_drawn_row) (by decide +kernel)) (fun _ _ _ _ _ => (pg_name (i := 16) sc__law_drawn_row.nd rfl (Or.inl rfl))) (fun _ _ _ _ _ => (pts_one (PW.pt (pw_and (pt_cmpR (r := rEqU K) (op_eqU hr.units) (pe_ix (r := rIx K) ix_seq (pe_ix (r := rIx K) ix_seq (pv 1) (pv 16) (fun _ _ => rfl)) pe_int (fun _ _ => rfl)) (pe_tup (pa_cons (pe_ix (r := rIx K) ix_seq (pv 5) (pv 14) (fun _ _ => rfl)) pa_nil)) (nomark _)) (pw_and1 (pt_truthK (K := K) rfl (pe_cx c__law_closes hr (by decide) pass0 (by rfl) (pa_cons (pe_ix (r := rIx K) ix_seq (pv 1) (pv 16) (fun _ _ => rfl)) pa_nil)) (fun _ => rfl))))))) (fun _ _ _ _ _ => (pv 16)))
 (pss_cons (ps_if (pt_cmpR (r := rEqU K) (op_eqU hr.units) (pe_callB (r := rLenU K) call_lenU (by rfl) T.b_len PySem.boot_len (pa_cons (pv 15) pa_nil)) pe_int (nomark _)) (pss_one ps_break) pss_nil)
 (pss_cons (ps_expr (pe_bm PySem.F.plainAttrs_list PySem.F.slot_list_append PySem.F.type_list_append mt_append (pv 4) (pa_cons (pe_tup (pa_cons (pe_ix (r := rIx K) ix_seq (pv 15) (pe_op op_mod (pe_callTy call_intU (by rfl) T.b_int PyProof.Rows.boot_int (pa_cons (pe_op (r := rAddU K) op_addU (pe_ix (r := rIx K) ix_seq (pv 2) pe_int (fun _ _ => rfl)) (pv 7)) pa_nil)) (pe_callB (r := rLenU K) call_lenU (by rfl) T.b_len PySem.boot_len (pa_cons (pv 15) pa_nil))) (fun _ _ => rfl)) (pa_cons (pv 14) pa_nil))) pa_nil)))
 (pss_one (ps_set (i := 5) sc__law_drawn_row.nd rfl (Or.inr rfl) (pe_cx c__law_rewrite hr (by decide) pass0 (by rfl) (pa_cons (pv 1) (pa_cons (pv 5) (pa_cons (pe_ix (r := rIx K) ix_seq (pv 15) (pe_op op_mod (pe_callTy call_intU (by rfl) T.b_int PyProof.Rows.boot_int (pa_cons (pe_op (r := rAddU K) op_addU (pe_ix (r := rIx K) ix_seq (pv 2) pe_int (fun _ _ => rfl)) (pv 7)) pa_nil)) (pe_callB (r := rLenU K) call_lenU (by rfl) T.b_len PySem.boot_len (pa_cons (pv 15) pa_nil))) (fun _ _ => rfl)) (pa_cons (pv 14) pa_nil))))))))))))))
 (pss_one (ps_ret (pv 4))))))))))), run_def (E := E) rfl (fun W0 => ?_) h⟩
    exact (vs_seq (vs_asg (vt_call (va_cons (vt_call (va_cons (vt_var 0) (va_cons vt_int va_nil))) (va_cons (vt_vn (vn_lst (va_cons vt_int (va_cons vt_int (va_cons vt_int va_nil))))) va_nil))) (vg_name 2))
 (vs_seq (vs_asg (vt_call (va_cons (vt_call (va_cons (vt_var 0) (va_cons vt_int va_nil))) (va_cons (vt_op ro_mul (vt_vn (vn_lst (va_cons vt_int va_nil))) vt_int) va_nil))) (vg_name 3))
 (vs_seq (vs_asgN (i := 4) (vn_lst va_nil))
 (vs_seq (vs_asg (vt_tup (va_cons vt_int va_nil)) (vg_name 5))
 (vs_seq (vs_asg (vt_op ro_add vt_int (vt_ixv (i := 2) (b2 := false) vt_int)) (vg_name 6))
 (vs_seq (vs_if (vb_test (b := false) (vt_opS (b1 := false) (b2 := false) ros_eq (vt_ixv (i := 2) (b2 := false) vt_int) vt_int)) (vs_asg vt_int (vg_name 6)) vs_next)
 (vs_seq (vs_for (vi_rg1 (b := false) (va_cons (vt_look 6) va_nil)) (vg_name 7) (vs_seq (vs_asg (vt_call (va_cons (vt_var 1) (va_cons (vt_var 5) va_nil))) (vg_name 8))
 (vs_seq (vs_asg (vt_vn (vn_lc (vi_seqU (vt_var 8)) (vg_name 12) (by decide) (vb_not (vb_tru (b := false) (vt_call (va_cons (vt_ixv (i := 1) (b2 := false) (vt_ixv (i := 12) (b2 := false) vt_int)) va_nil)))) (vt_var 12))) (vg_name 9))
 (vs_seq (vs_asg (vt_vn (vn_lc (vi_seqU (vt_var 8)) (vg_name 12) (by decide) (vb_test (b := false) (vt_opS (b1 := false) (b2 := false) ros_cmp (vt_cbS (b1 := false) rcs_len (va_cons (vt_op ro_ix (vt_ixv (i := 1) (b2 := false) (vt_ixv (i := 12) (b2 := false) vt_int)) vt_int) va_nil)) vt_int)) (vt_var 12))) (vg_name 10))
 (vs_seq (vs_asg (vt_cbS (b1 := false) rcs_int (va_cons (vt_op ro_add (vt_ixv (i := 3) (b2 := false) (vt_opS (b1 := false) (b2 := false) (ros_I (C := PosR) (f := fun i j => i % j)) (vt_cbS (b1 := false) rcs_int (va_cons (vt_look 7) va_nil)) vt_int)) (vt_op ro_mul vt_int (vt_look 7))) va_nil)) (vg_name 11))
 (vs_seq (vs_if (vb_and (vb_test (b := false) (vt_opS (b1 := false) (b2 := false) ros_cmp (vt_cbS (b1 := false) rcs_len (va_cons (vt_look 10) va_nil)) vt_int)) (vb_test (b := false) (vt_opS (b1 := false) (b2 := false) ros_cmp (vt_opS (b1 := false) (b2 := false) (ros_I (C := PosR) (f := fun i j => i % j)) (vt_cbS (b1 := false) rcs_int (va_cons (vt_look 11) va_nil)) vt_int) vt_int))) (vs_asg (vt_var 10) (vg_name 8)) (vs_if (vb_and (vb_test (b := false) (vt_opS (b1 := false) (b2 := false) ros_cmp (vt_cbS (b1 := false) rcs_len (va_cons (vt_look 9) va_nil)) vt_int)) (vb_test (b := false) (vt_opS (b1 := false) (b2 := false) ros_cmp (vt_opS (b1 := false) (b2 := false) (ros_I (C := PosR) (f := fun i j => i % j)) (vt_cbS (b1 := false) rcs_int (va_cons (vt_look 11) va_nil)) vt_int) vt_int))) (vs_asg (vt_var 9) (vg_name 8)) vs_next))
 (vs_seq (vs_if (vb_test (b := false) (vt_opS (b1 := false) (b2 := false) ros_eq (vt_cbS (b1 := false) rcs_len (va_cons (vt_look 8) va_nil)) vt_int)) vs_break vs_next)
 (vs_seq (vs_asg (vt_ixv (i := 8) (b2 := false) (vt_opS (b1 := false) (b2 := false) (ros_I (C := PosR) (f := fun i j => i % j)) (vt_cbS (b1 := false) rcs_int (va_cons (vt_opS (b1 := false) (b2 := false) (ros_I (C := CDivW) (f := fun i j => i / j)) (vt_look 11) vt_int) va_nil)) (vt_cbS (b1 := false) rcs_len (va_cons (vt_look 8) va_nil)))) (vg_name 12))
 (vs_seq (vs_append (i := 4) (vt_var 12))
 (vs_asg (vt_call (va_cons (vt_var 1) (va_cons (vt_var 5) (va_cons (vt_ixv (i := 12) (b2 := false) vt_int) (va_cons (vt_ixv (i := 12) (b2 := false) vt_int) va_nil))))) (vg_name 5)))))))))))
 (vs_seq (vs_for (vi_rg1 (b := false) (va_cons vt_int va_nil)) (vg_name 7) (vs_seq (vs_asg (vt_call (va_cons (vt_var 5) va_nil)) (vg_name 13))
 (vs_seq (vs_if (vb_test (b := false) (vt_opS (b1 := false) (b2 := false) ros_eq (vt_cbS (b1 := false) rcs_len (va_cons (vt_look 13) va_nil)) vt_int)) vs_break vs_next)
 (vs_seq (vs_asg (vt_ixv (i := 13) (b2 := false) (vt_opS (b1 := false) (b2 := false) (ros_I (C := PosR) (f := fun i j => i % j)) (vt_cbS (b1 := false) rcs_int (va_cons (vt_op ro_add (vt_ixv (i := 2) (b2 := false) vt_int) (vt_op ro_mul vt_int (vt_look 7))) va_nil)) (vt_cbS (b1 := false) rcs_len (va_cons (vt_look 13) va_nil)))) (vg_name 14))
 (vs_seq (vs_asg (vt_vn (vn_lc (vi_rg1 (b := false) (va_cons (vt_cbS (b1 := false) rcs_len (va_cons (vt_look 1) va_nil)) va_nil)) (vg_name 16) (by decide) (vb_and (vb_test (b := false) (vt_opS (b1 := false) (b2 := false) ros_eq (vt_op ro_ix (vt_ixv (i := 1) (b2 := false) (vt_look 16)) vt_int) (vt_tup (va_cons (vt_ixv (i := 5) (b2 := false) (vt_look 14)) va_nil)))) (vb_tru (b := false) (vt_call (va_cons (vt_ixv (i := 1) (b2 := false) (vt_look 16)) va_nil)))) (vt_var 16))) (vg_name 15))
 (vs_seq (vs_if (vb_test (b := false) (vt_opS (b1 := false) (b2 := false) ros_eq (vt_cbS (b1 := false) rcs_len (va_cons (vt_look 15) va_nil)) vt_int)) vs_break vs_next)
 (vs_seq (vs_append (i := 4) (vt_tup (va_cons (vt_ixv (i := 15) (b2 := false) (vt_opS (b1 := false) (b2 := false) (ros_I (C := PosR) (f := fun i j => i % j)) (vt_cbS (b1 := false) rcs_int (va_cons (vt_op ro_add (vt_ixv (i := 2) (b2 := false) vt_int) (vt_look 7)) va_nil)) (vt_cbS (b1 := false) rcs_len (va_cons (vt_look 15) va_nil)))) (va_cons (vt_var 14) va_nil))))
 (vs_asg (vt_call (va_cons (vt_var 1) (va_cons (vt_var 5) (va_cons (vt_ixv (i := 15) (b2 := false) (vt_opS (b1 := false) (b2 := false) (ros_I (C := PosR) (f := fun i j => i % j)) (vt_cbS (b1 := false) rcs_int (va_cons (vt_op ro_add (vt_ixv (i := 2) (b2 := false) vt_int) (vt_look 7)) va_nil)) (vt_cbS (b1 := false) rcs_len (va_cons (vt_look 15) va_nil)))) (va_cons (vt_var 14) va_nil))))) (vg_name 5)))))))))
 (vs_ret (vt_var 4))))))))))), hm, F.kp, b⟩

theorem ok__law_form_told (T : Txt K mg A) (c__law_rewrite : CalX P w K mg base CX0 1 "_law_rewrite" (spP K (m__law_rewrite A))) (c__law_side_alike : CalX P w K mg base CX0 2 "_law_side_alike" (spP K (m__law_side_alike A))) (c_rewritten : CalX P w K mg base CX0 1 "rewritten" (spP K (m_rewritten A))) {f : Addr} {fd : FuncData} (F : Fun K "_law_form_told" "_law_form_told" s__law_form_told f fd) (hm : mg "_law_form_told" = some (.ref f)) (b : Binds K fd ["grammar", "rules", "form", "digit"] []) :
    CalX P w K mg base CX0 3 "_law_form_told" (spP K (m__law_form_told A)) :=
  ⟨f, fd, ["grammar", "rules", "form", "digit"], F.ok sc__law_form_told (spP_len fun ds r h => (mOf_len h).1) (fun cdv A' outer s H vs Q E hr h => by
    refine ⟨_, (pss_cons (ps_set (i := 4) sc__law_form_told.nd rfl (Or.inl rfl) (pe_op (r := rAddU K) op_addU (pe_listRg rfl (by rfl) T.b_list (prg_2 (by rfl) T.b_range (pe_un un_neg pe_int) (pe_op (r := rAddU K) op_addU (pe_callB (r := rLenU K) call_lenU (by rfl) T.b_len PySem.boot_len (pa_cons (pv 1) pa_nil)) pe_int))) (pe_lst (pa_cons (pe_un un_neg (pe_callB (r := rLenU K) call_lenU (by rfl) T.b_len PySem.boot_len (pa_cons (pv 1) pa_nil))) (pa_cons (pe_op (r := rAddU K) op_addU (pe_callB (r := rLenU K) call_lenU (by rfl) T.b_len PySem.boot_len (pa_cons (pv 1) pa_nil)) (pv 3)) pa_nil)))))
 (pss_cons (ps_set (i := 5) sc__law_form_told.nd rfl (Or.inl rfl) (pe_op (r := rAddU K) op_addU (pe_listRg rfl (by rfl) T.b_list (prg_2 (by rfl) T.b_range (pe_op op_sub (pe_un un_neg (pe_callB (r := rLenU K) call_lenU (by rfl) T.b_len PySem.boot_len (pa_cons (pv 2) pa_nil))) pe_int) (pe_op (r := rAddU K) op_addU (pe_callB (r := rLenU K) call_lenU (by rfl) T.b_len PySem.boot_len (pa_cons (pv 2) pa_nil)) pe_int))) (pe_lst (pa_cons (pe_op (r := rAddU K) op_addU (pe_op (r := rAddU K) op_addU (pe_callB (r := rLenU K) call_lenU (by rfl) T.b_len PySem.boot_len (pa_cons (pv 2) pa_nil)) pe_int) (pv 3)) pa_nil))))
 (pss_cons (ps_set (i := 6) sc__law_form_told.nd rfl (Or.inl rfl) (pe_callTy (r := rListU K) call_listU (by rfl) T.b_list PyProof.Rows.boot_list (pa_cons (pv 2) pa_nil)))
 (pss_cons (ps_for PassesOwn.never rfl (pi_seqU (pv 4)) (pg_name (i := 7) sc__law_form_told.nd rfl (Or.inl rfl)) (pss_one (ps_for PassesOwn.never rfl (pi_seqU (pv 5)) (pg_name (i := 8) sc__law_form_told.nd rfl (Or.inl rfl)) (pss_cons (ps_set (i := 9) sc__law_form_told.nd rfl (Or.inl rfl) (pe_cx c__law_rewrite hr (by decide) pass0 (by rfl) (pa_cons (pv 1) (pa_cons (pv 2) (pa_cons (pv 7) (pa_cons (pv 8) pa_nil))))))
 (pss_cons (ps_set (i := 10) sc__law_form_told.nd rfl (Or.inl rfl) (pe_cx c_rewritten hr (by decide) pass0 (by rfl) (pa_cons (pv 0) (pa_cons (pe_ix (r := rIx K) ix_seq (pe_lst (pa_cons (pv 6) (pa_cons (pv 2) pa_nil))) (pe_op op_mod (pe_callTy call_intU (by rfl) T.b_int PyProof.Rows.boot_int (pa_cons (pv 7) pa_nil)) pe_int) (fun _ _ => rfl)) (pa_cons (pv 7) (pa_cons (pv 8) pa_nil))))))
 (pss_one (ps_if (pt_cmpR op_isU (pv 9) pe_non (nomark _)) (pss_one (ps_if (pt_cmpR op_isNotU (pv 10) pe_non (nomark _)) (pss_one (ps_ret pe_bl)) pss_nil)) (pss_one (ps_if (pt_not (pt_truthK (K := K) rfl (pe_cx c__law_side_alike hr (by decide) pass0 (by rfl) (pa_cons (pv 10) (pa_cons (pv 9) pa_nil))) (fun _ => rfl))) (pss_one (ps_ret pe_bl)) pss_nil)))))))))
 (pss_one (ps_ret (pe_cx c__law_side_alike hr (by decide) pass0 (by rfl) (pa_cons (pe_callTy (r := rTupleU K) call_tupleU (by rfl) T.b_tuple PyProof.Rows.boot_tuple (pa_cons (pv 6) pa_nil)) (pa_cons (pv 2) pa_nil))))))))), run_def (E := E) rfl (fun W0 => ?_) h⟩
    exact (vs_seq (vs_asg (vt_vn (vn_cat (vt_vn (vn_listRg (vr_2 (b1 := false) (b2 := false) (vt_neg (b1 := false) vt_int) (vt_op ro_add (vt_cbS (b1 := false) rcs_len (va_cons (vt_look 1) va_nil)) vt_int)))) (vt_vn (vn_lst (va_cons (vt_neg (b1 := false) (vt_cbS (b1 := false) rcs_len (va_cons (vt_look 1) va_nil))) (va_cons (vt_op ro_add (vt_cbS (b1 := false) rcs_len (va_cons (vt_look 1) va_nil)) (vt_var 3)) va_nil)))))) (vg_name 4))
 (vs_seq (vs_asg (vt_vn (vn_cat (vt_vn (vn_listRg (vr_2 (b1 := false) (b2 := false) (vt_opS (b1 := false) (b2 := false) ros_sub (vt_neg (b1 := false) (vt_cbS (b1 := false) rcs_len (va_cons (vt_look 2) va_nil))) vt_int) (vt_op ro_add (vt_cbS (b1 := false) rcs_len (va_cons (vt_look 2) va_nil)) vt_int)))) (vt_vn (vn_lst (va_cons (vt_op ro_add (vt_op ro_add (vt_cbS (b1 := false) rcs_len (va_cons (vt_look 2) va_nil)) vt_int) (vt_var 3)) va_nil))))) (vg_name 5))
 (vs_seq (vs_asg (vt_vn (vn_list (vt_var 2))) (vg_name 6))
 (vs_seq (vs_for (vi_seqU (vt_var 4)) (vg_name 7) (vs_for (vi_seqU (vt_var 5)) (vg_name 8) (vs_seq (vs_asg (vt_call (va_cons (vt_var 1) (va_cons (vt_var 2) (va_cons (vt_var 7) (va_cons (vt_var 8) va_nil))))) (vg_name 9))
 (vs_seq (vs_asg (vt_call (va_cons (vt_var 0) (va_cons (vt_op ro_ix (vt_vn (vn_lst (va_cons (vt_var 6) (va_cons (vt_var 2) va_nil)))) (vt_opS (b1 := false) (b2 := false) (ros_I (C := PosR) (f := fun i j => i % j)) (vt_cbS (b1 := false) rcs_int (va_cons (vt_look 7) va_nil)) vt_int)) (va_cons (vt_var 7) (va_cons (vt_var 8) va_nil))))) (vg_name 10))
 (vs_if (vb_test (b := false) (vt_opS (b1 := false) (b2 := false) ros_is (vt_look 9) vt_non)) (vs_if (vb_test (b := false) (vt_opS (b1 := false) (b2 := false) ros_isNot (vt_look 10) vt_non)) (vs_ret vt_bl) vs_next) (vs_if (vb_not (vb_tru (b := false) (vt_call (va_cons (vt_look 10) (va_cons (vt_look 9) va_nil))))) (vs_ret vt_bl) vs_next))))))
 (vs_ret (vt_call (va_cons (vt_cb rc_tuple (va_cons (vt_var 6) va_nil)) (va_cons (vt_var 2) va_nil))))))))), hm, F.kp, b⟩

theorem ok__law_handed (T : Txt K mg A)  {f : Addr} {fd : FuncData} (F : Fun K "_law_handed" "_law_handed" s__law_handed f fd) (hm : mg "_law_handed" = some (.ref f)) (b : Binds K fd ["pairs", "shape"] []) :
    CalX P w K mg base CX0 1 "_law_handed" (spP K (m__law_handed A)) :=
  ⟨f, fd, ["pairs", "shape"], F.ok sc__law_handed (spP_len fun ds r h => (mOf_len h).1) (fun cdv A' outer s H vs Q E hr h => by
    refine ⟨_, (pss_cons (ps_if (pt_cmpR (r := rEqU K) (op_eqU hr.units) (pv 1) pe_int (nomark _)) (pss_one (ps_ret (pe_lc (own := [("pair", 2)]) rfl sc__law_handed.nd (pi_seqU (pv 0)) (blkOk_by (N := N__law_handed) (sc := defScope s__law_handed) (by decide +kernel)) (fun _ _ _ _ _ => (pg_name (i := 2) sc__law_handed.nd rfl (Or.inl rfl))) (fun _ _ _ _ _ => pts_nil) (fun _ _ _ _ _ => (pe_lst (pa_cons (pe_ix (r := rIx K) ix_seq (pv 2) pe_int (fun _ _ => rfl)) (pa_cons (pe_ix (r := rIx K) ix_seq (pv 2) pe_int (fun _ _ => rfl)) pa_nil))))))) pss_nil)
 (pss_cons (ps_if (pt_cmpR (r := rEqU K) (op_eqU hr.units) (pv 1) pe_int (nomark _)) (pss_one (ps_ret (pe_lc (own := [("pair", 2)]) rfl sc__law_handed.nd (pi_seqU (pv 0)) (blkOk_by (N := N__law_handed) (sc := defScope s__law_handed) (by decide +kernel)) (fun _ _ _ _ _ => (pg_name (i := 2) sc__law_handed.nd rfl (Or.inl rfl))) (fun _ _ _ _ _ => pts_nil) (fun _ _ _ _ _ => (pe_tup (pa_cons (pe_ix (r := rIx K) ix_seq (pv 2) pe_int (fun _ _ => rfl)) (pa_cons (pe_ix (r := rIx K) ix_seq (pv 2) pe_int (fun _ _ => rfl)) pa_nil))))))) pss_nil)
 (pss_one (ps_ret (pe_callTy (r := rTupleU K) call_tupleU (by rfl) T.b_tuple PyProof.Rows.boot_tuple (pa_cons (pe_lc (own := [("pair", 2)]) rfl sc__law_handed.nd (pi_seqU (pv 0)) (blkOk_by (N := N__law_handed) (sc := defScope s__law_handed) (by decide +kernel)) (fun _ _ _ _ _ => (pg_name (i := 2) sc__law_handed.nd rfl (Or.inl rfl))) (fun _ _ _ _ _ => pts_nil) (fun _ _ _ _ _ => (pe_tup (pa_cons (pe_ix (r := rIx K) ix_seq (pv 2) pe_int (fun _ _ => rfl)) (pa_cons (pe_ix (r := rIx K) ix_seq (pv 2) pe_int (fun _ _ => rfl)) pa_nil))))) pa_nil)))))), run_def (E := E) rfl (fun W0 => ?_) h⟩
    exact (vs_seq (vs_if (vb_test (b := false) (vt_opS (b1 := false) (b2 := false) ros_eq (vt_look 1) vt_int)) (vs_ret (vt_vn (vn_lc (vi_seqU (vt_var 0)) (vg_name 2) (by decide) vb_yes (vt_vn (vn_lst (va_cons (vt_ixv (i := 2) (b2 := false) vt_int) (va_cons (vt_ixv (i := 2) (b2 := false) vt_int) va_nil))))))) vs_next)
 (vs_seq (vs_if (vb_test (b := false) (vt_opS (b1 := false) (b2 := false) ros_eq (vt_look 1) vt_int)) (vs_ret (vt_vn (vn_lc (vi_seqU (vt_var 0)) (vg_name 2) (by decide) vb_yes (vt_tup (va_cons (vt_ixv (i := 2) (b2 := false) vt_int) (va_cons (vt_ixv (i := 2) (b2 := false) vt_int) va_nil)))))) vs_next)
 (vs_ret (vt_cb rc_tuple (va_cons (vt_vn (vn_lc (vi_seqU (vt_var 0)) (vg_name 2) (by decide) vb_yes (vt_tup (va_cons (vt_ixv (i := 2) (b2 := false) vt_int) (va_cons (vt_ixv (i := 2) (b2 := false) vt_int) va_nil))))) va_nil)))))), hm, F.kp, b⟩

theorem ok__law_row_told (T : Txt K mg A) (c__law_asked : CalX P w K mg base CX0 5 "_law_asked" (spP K (m__law_asked A))) (c__law_follow : CalX P w K mg base CX0 2 "_law_follow" (spP K (m__law_follow A))) (c__law_forms_alike : CalX P w K mg base CX0 3 "_law_forms_alike" (spP K (m__law_forms_alike A))) (c__law_handed : CalX P w K mg base CX0 1 "_law_handed" (spP K (m__law_handed A))) (c__law_side_alike : CalX P w K mg base CX0 2 "_law_side_alike" (spP K (m__law_side_alike A))) (c__law_whole : CalX P w K mg base CX0 1 "_law_whole" (spP K (m__law_whole A))) {f : Addr} {fd : FuncData} (F : Fun K "_law_row_told" "_law_row_told" s__law_row_told f fd) (hm : mg "_law_row_told" = some (.ref f)) (b : Binds K fd ["grammar", "rules", "pairs", "shape"] []) :
    CalX P w K mg base CX0 6 "_law_row_told" (spP K (m__law_row_told A)) :=
  ⟨f, fd, ["grammar", "rules", "pairs", "shape"], F.ok sc__law_row_told (spP_len fun ds r h => (mOf_len h).1) (fun cdv A' outer s H vs Q E hr h => by
    refine ⟨_, (pss_cons (ps_set (i := 4) sc__law_row_told.nd rfl (Or.inl rfl) (pe_cx c__law_follow hr (by decide) pass0 (by rfl) (pa_cons (pv 1) (pa_cons (pv 2) pa_nil))))
 (pss_cons (ps_set (i := 5) sc__law_row_told.nd rfl (Or.inl rfl) (pe_cx c__law_handed hr (by decide) pass0 (by rfl) (pa_cons (pv 2) (pa_cons (pv 3) pa_nil))))
 (pss_cons (ps_for PassesOwn.never rfl (pi_range1 (by rfl) T.b_range (pa_cons pe_int pa_nil)) (pg_name (i := 6) sc__law_row_told.nd rfl (Or.inl rfl)) (pss_cons (ps_set (i := 7) sc__law_row_told.nd rfl (Or.inl rfl) (pe_cx c__law_asked hr (by decide) pass0 (by rfl) (pa_cons (pv 6) (pa_cons (pv 0) (pa_cons (pv 5) pa_nil)))))
 (pss_one (ps_if (pt_cmpR op_leU (pe_callB (r := rLenU K) call_lenU (by rfl) T.b_len PySem.boot_len (pa_cons (pv 4) pa_nil)) (pe_callB (r := rLenU K) call_lenU (by rfl) T.b_len PySem.boot_len (pa_cons (pv 2) pa_nil)) (nomark _)) (pss_one (ps_if (PW.pt (pw_or (pt_cmpR (r := rNeU K) (op_neU hr.units) (pe_ix (r := rIx K) ix_seq (pv 7) pe_int (fun _ _ => rfl)) pe_str (nomark _)) (pw_or (pt_not (pt_truthK (K := K) rfl (pe_cx c__law_whole hr (by decide) pass0 (by rfl) (pa_cons (pe_ix (r := rIx K) ix_seq (pv 7) pe_int (fun _ _ => rfl)) pa_nil)) (fun _ => rfl))) (pw_or1 (pt_cmpR (r := rNeU K) (op_neU hr.units) (pe_ix (r := rIx K) ix_seq (pv 7) pe_int (fun _ _ => rfl)) (pe_op op_sub (pe_callB (r := rLenU K) call_lenU (by rfl) T.b_len PySem.boot_len (pa_cons (pv 4) pa_nil)) pe_int) (nomark _)))))) (pss_one (ps_ret pe_bl)) pss_nil)) (pss_one (ps_if (pt_cmpR (r := rNeU K) (op_neU hr.units) (pe_ix (r := rIx K) ix_seq (pv 7) pe_int (fun _ _ => rfl)) pe_str (nomark _)) (pss_one (ps_ret pe_bl)) (pss_one (ps_if (PW.pt (pw_and (pt_cmpR (r := rEqU K) (op_eqU hr.units) (pv 6) pe_int (nomark _)) (pw_and1 (pt_not (pt_truthK (K := K) rfl (pe_cx c__law_forms_alike hr (by decide) pass0 (by rfl) (pa_cons (pe_ix (r := rIx K) ix_seq (pv 7) pe_int (fun _ _ => rfl)) (pa_cons (pv 4) pa_nil))) (fun _ => rfl)))))) (pss_one (ps_ret pe_bl)) (pss_one (ps_if (PW.pt (pw_and (pt_cmpR (r := rEqU K) (op_eqU hr.units) (pv 6) pe_int (nomark _)) (pw_and1 (pt_not (pt_truthK (K := K) rfl (pe_cx c__law_side_alike hr (by decide) pass0 (by rfl) (pa_cons (pe_ix (r := rIx K) ix_seq (pv 7) pe_int (fun _ _ => rfl)) (pa_cons (pe_ix (r := rIx K) ix_seq (pv 4) (pe_op op_sub (pe_callB (r := rLenU K) call_lenU (by rfl) T.b_len PySem.boot_len (pa_cons (pv 4) pa_nil)) pe_int) (fun _ _ => rfl)) pa_nil))) (fun _ => rfl)))))) (pss_one (ps_ret pe_bl)) pss_nil))))))))))
 (pss_one (ps_ret (pe_cmpR (r := rEqU K) (op_eqU hr.units) (pv 5) (pe_cx c__law_handed hr (by decide) pass0 (by rfl) (pa_cons (pv 2) (pa_cons (pv 3) pa_nil))) (nomark _))))))), run_def (E := E) rfl (fun W0 => ?_) h⟩
    exact (vs_seq (vs_asg (vt_call (va_cons (vt_var 1) (va_cons (vt_var 2) va_nil))) (vg_name 4))
 (vs_seq (vs_asg (vt_call (va_cons (vt_var 2) (va_cons (vt_var 3) va_nil))) (vg_name 5))
 (vs_seq (vs_for (vi_rg1 (b := false) (va_cons vt_int va_nil)) (vg_name 6) (vs_seq (vs_asg (vt_imm (b' := false) (vt_call (va_cons (vt_look 6) (va_cons (vt_look 0) (va_cons (vt_look 5) va_nil))))) (vg_name 7))
 (vs_if (vb_test (b := false) (vt_opS (b1 := false) (b2 := false) ros_cmp (vt_cbS (b1 := false) rcs_len (va_cons (vt_look 4) va_nil)) (vt_cbS (b1 := false) rcs_len (va_cons (vt_look 2) va_nil)))) (vs_if (vb_or (vb_test (b := false) (vt_opS (b1 := false) (b2 := false) ros_ne (vt_ixv (i := 7) (b2 := false) vt_int) vt_str)) (vb_or (vb_not (vb_tru (b := false) (vt_call (va_cons (vt_ixv (i := 7) (b2 := false) vt_int) va_nil)))) (vb_test (b := false) (vt_opS (b1 := false) (b2 := false) ros_ne (vt_ixv (i := 7) (b2 := false) vt_int) (vt_opS (b1 := false) (b2 := false) ros_sub (vt_cbS (b1 := false) rcs_len (va_cons (vt_look 4) va_nil)) vt_int))))) (vs_ret vt_bl) vs_next) (vs_if (vb_test (b := false) (vt_opS (b1 := false) (b2 := false) ros_ne (vt_ixv (i := 7) (b2 := false) vt_int) vt_str)) (vs_ret vt_bl) (vs_if (vb_and (vb_test (b := false) (vt_opS (b1 := false) (b2 := false) ros_eq (vt_look 6) vt_int)) (vb_not (vb_tru (b := false) (vt_call (va_cons (vt_ixv (i := 7) (b2 := false) vt_int) (va_cons (vt_look 4) va_nil)))))) (vs_ret vt_bl) (vs_if (vb_and (vb_test (b := false) (vt_opS (b1 := false) (b2 := false) ros_eq (vt_look 6) vt_int)) (vb_not (vb_tru (b := false) (vt_call (va_cons (vt_ixv (i := 7) (b2 := false) vt_int) (va_cons (vt_ixv (i := 4) (b2 := false) (vt_opS (b1 := false) (b2 := false) ros_sub (vt_cbS (b1 := false) rcs_len (va_cons (vt_look 4) va_nil)) vt_int)) va_nil)))))) (vs_ret vt_bl) vs_next))))))
 (vs_ret (vt_opS (b1 := false) (b2 := false) ros_eq (vt_look 5) (vt_call (va_cons (vt_look 2) (va_cons (vt_look 3) va_nil))))))))), hm, F.kp, b⟩

theorem ok__law_closing_rules (T : Txt K mg A) (c__law_digits : CalX P w K mg base CX0 1 "_law_digits" (spP K (m__law_digits A))) {f : Addr} {fd : FuncData} (F : Fun K "_law_closing_rules" "_law_closing_rules" s__law_closing_rules f fd) (hm : mg "_law_closing_rules" = some (.ref f)) (b : Binds K fd ["cell", "alphabet", "variables", "lost"] []) :
    CalX P w K mg base CX0 2 "_law_closing_rules" (spP K (m__law_closing_rules A)) :=
  ⟨f, fd, ["cell", "alphabet", "variables", "lost"], F.ok sc__law_closing_rules (spP_len fun ds r h => (mOf_len h).1) (fun cdv A' outer s H vs Q E hr h => by
    refine ⟨_, (pss_cons (ps_set (i := 4) sc__law_closing_rules.nd rfl (Or.inl rfl) (pe_cx c__law_digits hr (by decide) pass0 (by rfl) (pa_cons (pv 0) (pa_cons (pe_op op_mulU (pe_lst (pa_cons pe_int (pa_cons pe_int (pa_cons pe_int pa_nil)))) (pv 2)) pa_nil))))
 (pss_cons (ps_set (i := 5) sc__law_closing_rules.nd rfl (Or.inl rfl) (pe_lst pa_nil))
 (pss_cons (ps_for PassesOwn.never rfl (pi_range1 (by rfl) T.b_range (pa_cons (pv 2) pa_nil)) (pg_name (i := 6) sc__law_closing_rules.nd rfl (Or.inl rfl)) (pss_cons (ps_setLc (i := 7) (own := [("digit", 8)]) rfl sc__law_closing_rules.nd rfl rfl (sw_true rfl rfl rfl (by decide +kernel)) (pi_seqU (pe_slice (r := rCutU K) sl_U (pv 4) (po_some (pe_op (r := rAddU K) op_addU (pe_op op_mulU pe_int (pv 6)) pe_int)) (po_some (pe_op (r := rAddU K) op_addU (pe_op (r := rAddU K) op_addU (pe_op op_mulU pe_int (pv 6)) pe_int) (pe_ix (r := rIx K) ix_seq (pv 4) (pe_op op_mulU pe_int (pv 6)) (fun _ _ => rfl)))))) (blkOk_by (N := N__law_closing_rules) (sc := defScope s__law_closing_rules) (by decide +kernel)) (fun _ _ _ _ _ => (pg_name (i := 8) sc__law_closing_rules.nd rfl (Or.inl rfl))) (fun _ _ _ _ _ => pts_nil) (fun _ _ _ _ _ => (pe_ix (r := rIx K) ix_seq (pv 1) (pe_op op_mod (pe_callTy call_intU (by rfl) T.b_int PyProof.Rows.boot_int (pa_cons (pv 8) pa_nil)) (pe_callB (r := rLenU K) call_lenU (by rfl) T.b_len PySem.boot_len (pa_cons (pv 1) pa_nil))) (fun _ _ => rfl))))
 (pss_one (ps_if (pt_cmpR (r := rNeU K) (op_neU hr.units) (pv 6) (pv 3) (nomark _)) (pss_one (ps_expr (pe_bm PySem.F.plainAttrs_list PySem.F.slot_list_append PySem.F.type_list_append mt_append (pv 5) (pa_cons (pe_tup (pa_cons (pe_tup (pa_cons (pv 6) pa_nil)) (pa_cons (pe_callTy (r := rTupleU K) call_tupleU (by rfl) T.b_tuple PyProof.Rows.boot_tuple (pa_cons (pv 7) pa_nil)) pa_nil))) pa_nil)))) pss_nil))))
 (pss_one (ps_ret (pv 5)))))), run_def (E := E) rfl (fun W0 => ?_) h⟩
    exact (vs_seq (vs_asg (vt_call (va_cons (vt_var 0) (va_cons (vt_op ro_mul (vt_vn (vn_lst (va_cons vt_int (va_cons vt_int (va_cons vt_int va_nil))))) (vt_var 2)) va_nil))) (vg_name 4))
 (vs_seq (vs_asgN (i := 5) (vn_lst va_nil))
 (vs_seq (vs_for (vi_rg1 (b := false) (va_cons (vt_look 2) va_nil)) (vg_name 6) (vs_seq (vs_asg (vt_vn (vn_lc (vi_seqU (vt_cut (vt_var 4) (vo_some (b := false) (vt_op ro_add (vt_op ro_mul vt_int (vt_look 6)) vt_int)) (vo_some (b := false) (vt_op ro_add (vt_op ro_add (vt_op ro_mul vt_int (vt_look 6)) vt_int) (vt_ixv (i := 4) (b2 := false) (vt_op ro_mul vt_int (vt_look 6))))))) (vg_name 8) (by decide) vb_yes (vt_ixv (i := 1) (b2 := false) (vt_opS (b1 := false) (b2 := false) (ros_I (C := PosR) (f := fun i j => i % j)) (vt_cbS (b1 := false) rcs_int (va_cons (vt_look 8) va_nil)) (vt_cbS (b1 := false) rcs_len (va_cons (vt_look 1) va_nil)))))) (vg_name 7))
 (vs_if (vb_test (b := false) (vt_opS (b1 := false) (b2 := false) ros_ne (vt_look 6) (vt_look 3))) (vs_append (i := 5) (vt_tup (va_cons (vt_tup (va_cons (vt_var 6) va_nil)) (va_cons (vt_cb rc_tuple (va_cons (vt_var 7) va_nil)) va_nil)))) vs_next)))
 (vs_ret (vt_var 5)))))), hm, F.kp, b⟩

theorem ok__law_symbol (T : Txt K mg A)  {f : Addr} {fd : FuncData} (F : Fun K "_law_symbol" "_law_symbol" s__law_symbol f fd) (hm : mg "_law_symbol" = some (.ref f)) (b : Binds K fd ["digit", "alphabet", "variables"] []) :
    CalX P w K mg base CX0 1 "_law_symbol" (spP K (m__law_symbol A)) :=
  ⟨f, fd, ["digit", "alphabet", "variables"], F.ok sc__law_symbol (spP_len fun ds r h => (mOf_len h).1) (fun cdv A' outer s H vs Q E hr h => by
    refine ⟨_, (pss_cons (ps_if (pt_cmpR (r := rEqU K) (op_eqU hr.units) (pe_op op_mod (pe_callTy call_intU (by rfl) T.b_int PyProof.Rows.boot_int (pa_cons (pv 0) pa_nil)) pe_int) pe_int (nomark _)) (pss_one (ps_ret (pe_ix (r := rIx K) ix_seq (pv 1) (pe_op op_mod (pe_callTy call_intU (by rfl) T.b_int PyProof.Rows.boot_int (pa_cons (pe_op op_fdivW (pv 0) pe_int) pa_nil)) (pe_callB (r := rLenU K) call_lenU (by rfl) T.b_len PySem.boot_len (pa_cons (pv 1) pa_nil))) (fun _ _ => rfl)))) pss_nil)
 (pss_one (ps_ret (pe_op op_mod (pe_callTy call_intU (by rfl) T.b_int PyProof.Rows.boot_int (pa_cons (pe_op op_fdivW (pv 0) pe_int) pa_nil)) (pv 2))))), run_def (E := E) rfl (fun W0 => ?_) h⟩
    exact (vs_seq (vs_if (vb_test (b := false) (vt_opS (b1 := false) (b2 := false) ros_eq (vt_opS (b1 := false) (b2 := false) (ros_I (C := PosR) (f := fun i j => i % j)) (vt_cbS (b1 := false) rcs_int (va_cons (vt_look 0) va_nil)) vt_int) vt_int)) (vs_ret (vt_ixv (i := 1) (b2 := false) (vt_opS (b1 := false) (b2 := false) (ros_I (C := PosR) (f := fun i j => i % j)) (vt_cbS (b1 := false) rcs_int (va_cons (vt_opS (b1 := false) (b2 := false) (ros_I (C := CDivW) (f := fun i j => i / j)) (vt_look 0) vt_int) va_nil)) (vt_cbS (b1 := false) rcs_len (va_cons (vt_look 1) va_nil))))) vs_next)
 (vs_ret (vt_opS (b1 := false) (b2 := false) (ros_I (C := PosR) (f := fun i j => i % j)) (vt_cbS (b1 := false) rcs_int (va_cons (vt_opS (b1 := false) (b2 := false) (ros_I (C := CDivW) (f := fun i j => i / j)) (vt_look 0) vt_int) va_nil)) (vt_look 2))))), hm, F.kp, b⟩

theorem ok__law_grown_rules (T : Txt K mg A) (c__law_cell : CalX P w K mg base CX0 1 "_law_cell" (spP K (m__law_cell A))) (c__law_digits : CalX P w K mg base CX0 1 "_law_digits" (spP K (m__law_digits A))) (c__law_spots : CalX P w K mg base CX0 1 "_law_spots" (spP K (m__law_spots A))) (c__law_symbol : CalX P w K mg base CX0 1 "_law_symbol" (spP K (m__law_symbol A))) {f : Addr} {fd : FuncData} (F : Fun K "_law_grown_rules" "_law_grown_rules" s__law_grown_rules f fd) (hm : mg "_law_grown_rules" = some (.ref f)) (b : Binds K fd ["script", "alphabet", "variables", "many"] []) :
    CalX P w K mg base CX0 2 "_law_grown_rules" (spP K (m__law_grown_rules A)) :=
  ⟨f, fd, ["script", "alphabet", "variables", "many"], F.ok sc__law_grown_rules (spP_len fun ds r h => (mOf_len h).1) (fun cdv A' outer s H vs Q E hr h => by
    refine ⟨_, (pss_cons (ps_set (i := 4) sc__law_grown_rules.nd rfl (Or.inl rfl) (pe_lst pa_nil))
 (pss_cons (ps_set (i := 5) sc__law_grown_rules.nd rfl (Or.inl rfl) (pe_tup (pa_cons pe_int pa_nil)))
 (pss_cons (ps_for PassesOwn.never rfl (pi_range1 (by rfl) T.b_range (pa_cons (pv 3) pa_nil)) (pg_name (i := 6) sc__law_grown_rules.nd rfl (Or.inl rfl)) (pss_cons (ps_set (i := 7) sc__law_grown_rules.nd rfl (Or.inl rfl) (pe_cx c__law_digits hr (by decide) pass0 (by rfl) (pa_cons (pe_cx c__law_cell hr (by decide) pass0 (by rfl) (pa_cons (pv 0) (pa_cons (pe_op (r := rAddU K) op_addU pe_int (pv 6)) pa_nil))) (pa_cons (pe_op (r := rAddU K) op_addU (pe_lst (pa_cons pe_int (pa_cons pe_int (pa_cons pe_int pa_nil)))) (pe_op op_mulU (pe_lst (pa_cons pe_int pa_nil)) pe_int)) pa_nil))))
 (pss_cons (ps_set (i := 8) sc__law_grown_rules.nd rfl (Or.inl rfl) (pe_cx c__law_spots hr (by decide) pass0 (by rfl) (pa_cons (pv 5) pa_nil)))
 (pss_cons (ps_if (pt_cmpR (r := rEqU K) (op_eqU hr.units) (pe_callB (r := rLenU K) call_lenU (by rfl) T.b_len PySem.boot_len (pa_cons (pv 8) pa_nil)) pe_int (nomark _)) (pss_cons (ps_set (i := 5) sc__law_grown_rules.nd rfl (Or.inl rfl) (pe_tup (pa_cons pe_int pa_nil)))
 (pss_one (ps_set (i := 8) sc__law_grown_rules.nd rfl (Or.inl rfl) (pe_lst (pa_cons pe_int pa_nil))))) pss_nil)
 (pss_cons (ps_set (i := 9) sc__law_grown_rules.nd rfl (Or.inl rfl) (pe_ix (r := rIx K) ix_seq (pv 8) (pe_op op_mod (pe_callTy call_intU (by rfl) T.b_int PyProof.Rows.boot_int (pa_cons (pe_ix (r := rIx K) ix_seq (pv 7) pe_int (fun _ _ => rfl)) pa_nil)) (pe_callB (r := rLenU K) call_lenU (by rfl) T.b_len PySem.boot_len (pa_cons (pv 8) pa_nil))) (fun _ _ => rfl)))
 (pss_cons (ps_set (i := 10) sc__law_grown_rules.nd rfl (Or.inl rfl) (pe_callB (call_maxU rfl) (by rfl) T.b_max (by decide +kernel) (pa_cons pe_int (pa_cons (pe_op op_sub (pv 9) (pe_op op_mod (pe_callTy call_intU (by rfl) T.b_int PyProof.Rows.boot_int (pa_cons (pe_ix (r := rIx K) ix_seq (pv 7) pe_int (fun _ _ => rfl)) pa_nil)) pe_int)) pa_nil))))
 (pss_cons (ps_set (i := 11) sc__law_grown_rules.nd rfl (Or.inl rfl) (pe_callB (call_minU rfl) (by rfl) T.b_min (by decide +kernel) (pa_cons (pe_callB (r := rLenU K) call_lenU (by rfl) T.b_len PySem.boot_len (pa_cons (pv 5) pa_nil)) (pa_cons (pe_op (r := rAddU K) op_addU (pe_op (r := rAddU K) op_addU (pv 9) pe_int) (pe_op op_fdivW (pe_ix (r := rIx K) ix_seq (pv 7) pe_int (fun _ _ => rfl)) pe_int)) pa_nil))))
 (pss_cons (ps_set (i := 12) sc__law_grown_rules.nd rfl (Or.inl rfl) (pe_ix (r := rIx K) ix_seq (pe_lst (pa_cons pe_int (pa_cons pe_int (pa_cons pe_int (pa_cons pe_int (pa_cons pe_int (pa_cons pe_int (pa_cons pe_int pa_nil)))))))) (pe_ix (r := rIx K) ix_seq (pv 7) pe_int (fun _ _ => rfl)) (fun _ _ => rfl)))
 (pss_cons (ps_if (pt_cmpR (r := rEqU K) (op_eqU hr.units) (pv 6) pe_int (nomark _)) (pss_one (ps_set (i := 12) sc__law_grown_rules.nd rfl (Or.inl rfl) (pe_ix (r := rIx K) ix_seq (pe_lst (pa_cons pe_int (pa_cons pe_int (pa_cons pe_int (pa_cons pe_int (pa_cons pe_int (pa_cons pe_int (pa_cons pe_int pa_nil)))))))) (pe_ix (r := rIx K) ix_seq (pv 7) pe_int (fun _ _ => rfl)) (fun _ _ => rfl)))) pss_nil)
 (pss_cons (ps_setLc (i := 13) (own := [("digit", 14)]) rfl sc__law_grown_rules.nd rfl rfl (sw_true rfl rfl rfl (by decide +kernel)) (pi_seqU (pe_slice (r := rCutU K) sl_U (pv 7) (po_some pe_int) (po_some (pe_op (r := rAddU K) op_addU pe_int (pv 12))))) (blkOk_by (N := N__law_grown_rules) (sc := defScope s__law_grown_rules) (by decide +kernel)) (fun _ _ _ _ _ => (pg_name (i := 14) sc__law_grown_rules.nd rfl (Or.inl rfl))) (fun _ _ _ _ _ => pts_nil) (fun _ _ _ _ _ => (pe_cx c__law_symbol hr (by decide) pass0 (by rfl) (pa_cons (pv 14) (pa_cons (pv 1) (pa_cons (pv 2) pa_nil))))))
 (pss_cons (ps_if (pt_cmpR (r := rEqU K) (op_eqU hr.units) (pv 6) pe_int (nomark _)) (pss_one (ps_asg (pe_op op_mod (pe_callTy call_intU (by rfl) T.b_int PyProof.Rows.boot_int (pa_cons (pe_op (r := rAddU K) op_addU (pe_ix (r := rIx K) ix_seq (pv 7) pe_int (fun _ _ => rfl)) (pe_ix (r := rIx K) ix_seq (pv 7) pe_int (fun _ _ => rfl))) pa_nil)) (pv 2)) (pg_sub (pv 13) (pe_op op_mod (pe_callTy call_intU (by rfl) T.b_int PyProof.Rows.boot_int (pa_cons (pe_ix (r := rIx K) ix_seq (pv 7) pe_int (fun _ _ => rfl)) pa_nil)) (pv 12)) set_list))) pss_nil)
 (pss_cons (ps_set (i := 13) sc__law_grown_rules.nd rfl (Or.inl rfl) (pe_callTy (r := rTupleU K) call_tupleU (by rfl) T.b_tuple PyProof.Rows.boot_tuple (pa_cons (pv 13) pa_nil)))
 (pss_cons (ps_expr (pe_bm PySem.F.plainAttrs_list PySem.F.slot_list_append PySem.F.type_list_append mt_append (pv 4) (pa_cons (pe_tup (pa_cons (pe_slice (r := rCutU K) sl_U (pv 5) (po_some (pv 10)) (po_some (pv 11))) (pa_cons (pv 13) pa_nil))) pa_nil)))
 (pss_one (ps_set (i := 5) sc__law_grown_rules.nd rfl (Or.inl rfl) (pe_op (r := rAddU K) op_addU (pe_op (r := rAddU K) op_addU (pe_slice (r := rCutU K) sl_U (pv 5) po_none (po_some (pv 10))) (pv 13)) (pe_slice (r := rCutU K) sl_U (pv 5) (po_some (pv 11)) po_none)))))))))))))))))
 (pss_one (ps_ret (pv 4)))))), run_def (E := E) rfl (fun W0 => ?_) h⟩
    exact (vs_seq (vs_asgN (i := 4) (vn_lst va_nil))
 (vs_seq (vs_asg (vt_tup (va_cons vt_int va_nil)) (vg_name 5))
 (vs_seq (vs_for (vi_rg1 (b := false) (va_cons (vt_look 3) va_nil)) (vg_name 6) (vs_seq (vs_asg (vt_call (va_cons (vt_call (va_cons (vt_var 0) (va_cons (vt_op ro_add vt_int (vt_var 6)) va_nil))) (va_cons (vt_vn (vn_cat (vt_vn (vn_lst (va_cons vt_int (va_cons vt_int (va_cons vt_int va_nil))))) (vt_op ro_mul (vt_vn (vn_lst (va_cons vt_int va_nil))) vt_int))) va_nil))) (vg_name 7))
 (vs_seq (vs_asg (vt_call (va_cons (vt_var 5) va_nil)) (vg_name 8))
 (vs_seq (vs_if (vb_test (b := false) (vt_opS (b1 := false) (b2 := false) ros_eq (vt_cbS (b1 := false) rcs_len (va_cons (vt_look 8) va_nil)) vt_int)) (vs_seq (vs_asg (vt_tup (va_cons vt_int va_nil)) (vg_name 5))
 (vs_asg (vt_vn (vn_lst (va_cons vt_int va_nil))) (vg_name 8))) vs_next)
 (vs_seq (vs_asg (vt_ixv (i := 8) (b2 := false) (vt_opS (b1 := false) (b2 := false) (ros_I (C := PosR) (f := fun i j => i % j)) (vt_cbS (b1 := false) rcs_int (va_cons (vt_ixv (i := 7) (b2 := false) vt_int) va_nil)) (vt_cbS (b1 := false) rcs_len (va_cons (vt_look 8) va_nil)))) (vg_name 9))
 (vs_seq (vs_asg (vt_cbS (b1 := false) rcs_max (va_cons vt_int (va_cons (vt_opS (b1 := false) (b2 := false) ros_sub (vt_look 9) (vt_opS (b1 := false) (b2 := false) (ros_I (C := PosR) (f := fun i j => i % j)) (vt_cbS (b1 := false) rcs_int (va_cons (vt_ixv (i := 7) (b2 := false) vt_int) va_nil)) vt_int)) va_nil))) (vg_name 10))
 (vs_seq (vs_asg (vt_cbS (b1 := false) rcs_min (va_cons (vt_cbS (b1 := false) rcs_len (va_cons (vt_look 5) va_nil)) (va_cons (vt_op ro_add (vt_op ro_add (vt_look 9) vt_int) (vt_opS (b1 := false) (b2 := false) (ros_I (C := CDivW) (f := fun i j => i / j)) (vt_ixv (i := 7) (b2 := false) vt_int) vt_int)) va_nil))) (vg_name 11))
 (vs_seq (vs_asg (vt_op ro_ix (vt_vn (vn_lst (va_cons vt_int (va_cons vt_int (va_cons vt_int (va_cons vt_int (va_cons vt_int (va_cons vt_int (va_cons vt_int va_nil))))))))) (vt_ixv (i := 7) (b2 := false) vt_int)) (vg_name 12))
 (vs_seq (vs_if (vb_test (b := false) (vt_opS (b1 := false) (b2 := false) ros_eq (vt_look 6) vt_int)) (vs_asg (vt_op ro_ix (vt_vn (vn_lst (va_cons vt_int (va_cons vt_int (va_cons vt_int (va_cons vt_int (va_cons vt_int (va_cons vt_int (va_cons vt_int va_nil))))))))) (vt_ixv (i := 7) (b2 := false) vt_int)) (vg_name 12)) vs_next)
 (vs_seq (vs_asgN (i := 13) (vn_lc (vi_seqU (vt_cut (vt_var 7) (vo_some (b := false) vt_int) (vo_some (b := false) (vt_op ro_add vt_int (vt_look 12))))) (vg_name 14) (by decide) vb_yes (vt_call (va_cons (vt_var 14) (va_cons (vt_var 1) (va_cons (vt_var 2) va_nil))))))
 (vs_seq (vs_if (vb_test (b := false) (vt_opS (b1 := false) (b2 := false) ros_eq (vt_look 6) vt_int)) (vs_setIx (i := 13) (b := false) (vt_opS (b1 := false) (b2 := false) (ros_I (C := PosR) (f := fun i j => i % j)) (vt_cbS (b1 := false) rcs_int (va_cons (vt_ixv (i := 7) (b2 := false) vt_int) va_nil)) (vt_look 12)) (vt_opS (b1 := false) (b2 := false) (ros_I (C := PosR) (f := fun i j => i % j)) (vt_cbS (b1 := false) rcs_int (va_cons (vt_op ro_add (vt_ixv (i := 7) (b2 := false) vt_int) (vt_ixv (i := 7) (b2 := false) vt_int)) va_nil)) (vt_look 2))) vs_next)
 (vs_seq (vs_frz 13 (vs_asg (vt_cb rc_tuple (va_cons (vt_var 13) va_nil)) (vg_name 13)))
 (vs_seq (vs_frz 13 (vs_append (i := 4) (vt_tup (va_cons (vt_cut (vt_var 5) (vo_some (b := false) (vt_look 10)) (vo_some (b := false) (vt_look 11))) (va_cons (vt_var 13) va_nil)))))
 (vs_frz 13 (vs_asg (vt_op ro_add (vt_op ro_add (vt_cut (vt_var 5) vo_none (vo_some (b := false) (vt_look 10))) (vt_var 13)) (vt_cut (vt_var 5) (vo_some (b := false) (vt_look 11)) vo_none)) (vg_name 5))))))))))))))))
 (vs_ret (vt_var 4)))))), hm, F.kp, b⟩

theorem ok__law_rules (T : Txt K mg A) (c__law_cell : CalX P w K mg base CX0 1 "_law_cell" (spP K (m__law_cell A))) (c__law_closing_rules : CalX P w K mg base CX0 2 "_law_closing_rules" (spP K (m__law_closing_rules A))) (c__law_digits : CalX P w K mg base CX0 1 "_law_digits" (spP K (m__law_digits A))) (c__law_grown_rules : CalX P w K mg base CX0 2 "_law_grown_rules" (spP K (m__law_grown_rules A))) {f : Addr} {fd : FuncData} (F : Fun K "_law_rules" "_law_rules" s__law_rules f fd) (hm : mg "_law_rules" = some (.ref f)) (b : Binds K fd ["script", "alphabet", "variables"] []) :
    CalX P w K mg base CX0 3 "_law_rules" (spP K (m__law_rules A)) :=
  ⟨f, fd, ["script", "alphabet", "variables"], F.ok sc__law_rules (spP_len fun ds r h => (mOf_len h).1) (fun cdv A' outer s H vs Q E hr h => by
    refine ⟨_, (pss_cons (ps_set (i := 3) sc__law_rules.nd rfl (Or.inl rfl) (pe_cx c__law_digits hr (by decide) pass0 (by rfl) (pa_cons (pe_cx c__law_cell hr (by decide) pass0 (by rfl) (pa_cons (pv 0) (pa_cons pe_int pa_nil))) (pa_cons (pe_lst (pa_cons pe_int (pa_cons pe_int (pa_cons pe_int (pa_cons pe_int (pa_cons pe_int (pa_cons pe_int (pa_cons pe_int pa_nil)))))))) pa_nil))))
 (pss_cons (ps_set (i := 4) sc__law_rules.nd rfl (Or.inl rfl) (pv 2))
 (pss_cons (ps_if (pt_cmpR (r := rEqU K) (op_eqU hr.units) (pe_ix (r := rIx K) ix_seq (pv 3) pe_int (fun _ _ => rfl)) pe_int (nomark _)) (pss_one (ps_set (i := 4) sc__law_rules.nd rfl (Or.inl rfl) (pe_op op_mod (pe_callTy call_intU (by rfl) T.b_int PyProof.Rows.boot_int (pa_cons (pe_ix (r := rIx K) ix_seq (pv 3) pe_int (fun _ _ => rfl)) pa_nil)) (pv 2)))) pss_nil)
 (pss_cons (ps_set (i := 5) sc__law_rules.nd rfl (Or.inr rfl) (pe_cx c__law_grown_rules hr (by decide) pass0 (by rfl) (pa_cons (pv 0) (pa_cons (pv 1) (pa_cons (pv 2) (pa_cons (pe_op (r := rAddU K) op_addU pe_int (pe_ix (r := rIx K) ix_seq (pv 3) pe_int (fun _ _ => rfl))) pa_nil))))))
 (pss_cons (ps_set (i := 5) sc__law_rules.nd rfl (Or.inr rfl) (pe_op (r := rAddU K) op_addU (pv 5) (pe_cx c__law_closing_rules hr (by decide) pass0 (by rfl) (pa_cons (pe_cx c__law_cell hr (by decide) pass0 (by rfl) (pa_cons (pv 0) (pa_cons pe_int pa_nil))) (pa_cons (pv 1) (pa_cons (pv 2) (pa_cons (pv 4) pa_nil)))))))
 (pss_cons (ps_if (pt_cmpR (r := rEqU K) (op_eqU hr.units) (pe_ix (r := rIx K) ix_seq (pv 3) pe_int (fun _ _ => rfl)) pe_int (nomark _)) (pss_one (ps_expr (pe_bm PySem.F.plainAttrs_list PySem.F.slot_list_append PySem.F.type_list_append mt_append (pv 5) (pa_cons (pe_ix (r := rIx K) ix_seq (pv 5) (pe_op op_mod (pe_callTy call_intU (by rfl) T.b_int PyProof.Rows.boot_int (pa_cons (pe_ix (r := rIx K) ix_seq (pv 3) pe_int (fun _ _ => rfl)) pa_nil)) (pe_callB (r := rLenU K) call_lenU (by rfl) T.b_len PySem.boot_len (pa_cons (pv 5) pa_nil))) (fun _ _ => rfl)) pa_nil)))) pss_nil)
 (pss_cons (ps_set (i := 6) sc__law_rules.nd rfl (Or.inl rfl) (pe_op op_mod (pe_callTy call_intU (by rfl) T.b_int PyProof.Rows.boot_int (pa_cons (pe_ix (r := rIx K) ix_seq (pv 3) pe_int (fun _ _ => rfl)) pa_nil)) (pe_callB (r := rLenU K) call_lenU (by rfl) T.b_len PySem.boot_len (pa_cons (pv 5) pa_nil))))
 (pss_cons (ps_set (i := 5) sc__law_rules.nd rfl (Or.inr rfl) (pe_op (r := rAddU K) op_addU (pe_slice (r := rCutU K) sl_U (pv 5) (po_some (pv 6)) po_none) (pe_slice (r := rCutU K) sl_U (pv 5) po_none (po_some (pv 6)))))
 (pss_cons (ps_if (pt_cmpR (r := rEqU K) (op_eqU hr.units) (pe_ix (r := rIx K) ix_seq (pv 3) pe_int (fun _ _ => rfl)) pe_int (nomark _)) (pss_one (ps_set (i := 5) sc__law_rules.nd rfl (Or.inr rfl) (pe_lc (own := [("k", 7)]) rfl sc__law_rules.nd (pi_range1 (by rfl) T.b_range (pa_cons (pe_callB (r := rLenU K) call_lenU (by rfl) T.b_len PySem.boot_len (pa_cons (pv 5) pa_nil)) pa_nil)) (blkOk_by (N := N__law_rules) (sc := defScope s__law_rules) (by decide +kernel)) (fun _ _ _ _ _ => (pg_name (i := 7) sc__law_rules.nd rfl (Or.inl rfl))) (fun _ _ _ _ _ => pts_nil) (fun _ _ _ _ _ => (pe_ix (r := rIx K) ix_seq (pv 5) (pe_op op_sub (pe_op op_sub (pe_callB (r := rLenU K) call_lenU (by rfl) T.b_len PySem.boot_len (pa_cons (pv 5) pa_nil)) pe_int) (pv 7)) (fun _ _ => rfl)))))) pss_nil)
 (pss_one (ps_ret (pv 5)))))))))))), run_def (E := E) rfl (fun W0 => ?_) h⟩
    exact (vs_seq (vs_asg (vt_call (va_cons (vt_call (va_cons (vt_var 0) (va_cons vt_int va_nil))) (va_cons (vt_vn (vn_lst (va_cons vt_int (va_cons vt_int (va_cons vt_int (va_cons vt_int (va_cons vt_int (va_cons vt_int (va_cons vt_int va_nil))))))))) va_nil))) (vg_name 3))
 (vs_seq (vs_asg (vt_var 2) (vg_name 4))
 (vs_seq (vs_if (vb_test (b := false) (vt_opS (b1 := false) (b2 := false) ros_eq (vt_ixv (i := 3) (b2 := false) vt_int) vt_int)) (vs_asg (vt_opS (b1 := false) (b2 := false) (ros_I (C := PosR) (f := fun i j => i % j)) (vt_cbS (b1 := false) rcs_int (va_cons (vt_ixv (i := 3) (b2 := false) vt_int) va_nil)) (vt_look 2)) (vg_name 4)) vs_next)
 (vs_seq (vs_asg (vt_call (va_cons (vt_var 0) (va_cons (vt_var 1) (va_cons (vt_var 2) (va_cons (vt_op ro_add vt_int (vt_ixv (i := 3) (b2 := false) vt_int)) va_nil))))) (vg_name 5))
 (vs_seq (vs_frz 5 (vs_asgN (i := 5) (vn_cat (vt_var 5) (vt_call (va_cons (vt_call (va_cons (vt_var 0) (va_cons vt_int va_nil))) (va_cons (vt_var 1) (va_cons (vt_var 2) (va_cons (vt_var 4) va_nil))))))))
 (vs_seq (vs_if (vb_test (b := false) (vt_opS (b1 := false) (b2 := false) ros_eq (vt_ixv (i := 3) (b2 := false) vt_int) vt_int)) (vs_append (i := 5) (vt_ixv (i := 5) (b2 := false) (vt_opS (b1 := false) (b2 := false) (ros_I (C := PosR) (f := fun i j => i % j)) (vt_cbS (b1 := false) rcs_int (va_cons (vt_ixv (i := 3) (b2 := false) vt_int) va_nil)) (vt_cbS (b1 := false) rcs_len (va_cons (vt_look 5) va_nil))))) vs_next)
 (vs_seq (vs_asg (vt_opS (b1 := false) (b2 := false) (ros_I (C := PosR) (f := fun i j => i % j)) (vt_cbS (b1 := false) rcs_int (va_cons (vt_ixv (i := 3) (b2 := false) vt_int) va_nil)) (vt_cbS (b1 := false) rcs_len (va_cons (vt_look 5) va_nil))) (vg_name 6))
 (vs_seq (vs_frz 5 (vs_asgN (i := 5) (vn_cat (vt_cut (vt_var 5) (vo_some (b := false) (vt_look 6)) vo_none) (vt_cut (vt_var 5) vo_none (vo_some (b := false) (vt_look 6))))))
 (vs_seq (vs_if (vb_test (b := false) (vt_opS (b1 := false) (b2 := false) ros_eq (vt_ixv (i := 3) (b2 := false) vt_int) vt_int)) (vs_asgN (i := 5) (vn_lc (vi_rg1 (b := false) (va_cons (vt_cbS (b1 := false) rcs_len (va_cons (vt_look 5) va_nil)) va_nil)) (vg_name 7) (by decide) vb_yes (vt_ixv (i := 5) (b2 := false) (vt_opS (b1 := false) (b2 := false) ros_sub (vt_opS (b1 := false) (b2 := false) ros_sub (vt_cbS (b1 := false) rcs_len (va_cons (vt_look 5) va_nil)) vt_int) (vt_look 7))))) vs_next)
 (vs_ret (vt_var 5)))))))))))), hm, F.kp, b⟩

theorem ok__law_texts_told (T : Txt K mg A) (c__law_follow : CalX P w K mg base CX0 2 "_law_follow" (spP K (m__law_follow A))) (c__law_handed : CalX P w K mg base CX0 1 "_law_handed" (spP K (m__law_handed A))) (c_is_derivation : CalX P w K mg base CX0 3 "is_derivation" (spP K (m_is_derivation A))) {f : Addr} {fd : FuncData} (F : Fun K "_law_texts_told" "_law_texts_told" s__law_texts_told f fd) (hm : mg "_law_texts_told" = some (.ref f)) (b : Binds K fd ["grammar", "rules", "pairs", "whole", "first", "shape"] []) :
    CalX P w K mg base CX0 4 "_law_texts_told" (spP K (m__law_texts_told A)) :=
  ⟨f, fd, ["grammar", "rules", "pairs", "whole", "first", "shape"], F.ok sc__law_texts_told (spP_len fun ds r h => (mOf_len h).1) (fun cdv A' outer s H vs Q E hr h => by
    refine ⟨_, (pss_cons (ps_set (i := 6) sc__law_texts_told.nd rfl (Or.inl rfl) (pe_cx c__law_follow hr (by decide) pass0 (by rfl) (pa_cons (pv 1) (pa_cons (pv 2) pa_nil))))
 (pss_cons (ps_set (i := 7) sc__law_texts_told.nd rfl (Or.inl rfl) (pe_joinU (K := K) rfl pe_str (pe_lc (own := [("symbol", 13)]) rfl sc__law_texts_told.nd (pi_seqU (pe_ix (r := rIx K) ix_seq (pv 6) (pe_op op_sub (pe_callB (r := rLenU K) call_lenU (by rfl) T.b_len PySem.boot_len (pa_cons (pv 6) pa_nil)) pe_int) (fun _ _ => rfl))) (blkOk_by (N := N__law_texts_told) (sc := defScope s__law_texts_told) (by decide +kernel)) (fun _ _ _ _ _ => (pg_name (i := 13) sc__law_texts_told.nd rfl (Or.inl rfl))) (fun _ _ _ _ _ => pts_nil) (fun _ _ _ _ _ => (pe_callTy (r := rStrU) call_strU (by rfl) T.b_str (by decide +kernel) (pa_cons (pv 13) pa_nil))))))
 (pss_cons (ps_set (i := 8) sc__law_texts_told.nd rfl (Or.inl rfl) (pe_joinU (K := K) rfl pe_str (pe_lc (own := [("symbol", 13)]) rfl sc__law_texts_told.nd (pi_seqU (pe_ix (r := rIx K) ix_seq (pv 3) (pe_op op_sub (pe_callB (r := rLenU K) call_lenU (by rfl) T.b_len PySem.boot_len (pa_cons (pv 3) pa_nil)) pe_int) (fun _ _ => rfl))) (blkOk_by (N := N__law_texts_told) (sc := defScope s__law_texts_told) (by decide +kernel)) (fun _ _ _ _ _ => (pg_name (i := 13) sc__law_texts_told.nd rfl (Or.inl rfl))) (fun _ _ _ _ _ => pts_nil) (fun _ _ _ _ _ => (pe_callTy (r := rStrU) call_strU (by rfl) T.b_str (by decide +kernel) (pa_cons (pv 13) pa_nil))))))
 (pss_cons (ps_set (i := 9) sc__law_texts_told.nd rfl (Or.inl rfl) (pe_cx c__law_handed hr (by decide) pass0 (by rfl) (pa_cons (pv 2) (pa_cons (pv 5) pa_nil))))
 (pss_cons (ps_for PassesOwn.never rfl (pi_seqU (pe_lst (pa_cons (pv 7) (pa_cons (pv 8) (pa_cons (pe_op (r := rAddU K) op_addU (pv 7) (pv 4)) (pa_cons (pe_op (r := rAddU K) op_addU (pv 4) (pv 7)) (pa_cons (pe_slice (r := rCutU K) sl_U (pv 7) (po_some pe_int) po_none) (pa_cons (pe_slice (r := rCutU K) sl_U (pv 7) po_none (po_some (pe_op op_sub (pe_callB (r := rLenU K) call_lenU (by rfl) T.b_len PySem.boot_len (pa_cons (pv 7) pa_nil)) pe_int))) (pa_cons pe_str (pa_cons pe_str (pa_cons (pe_op (r := rAddU K) op_addU pe_str (pe_slice (r := rCutU K) sl_U (pv 8) (po_some pe_int) po_none)) pa_nil))))))))))) (pg_name (i := 10) sc__law_texts_told.nd rfl (Or.inl rfl)) (pss_cons (ps_set (i := 11) sc__law_texts_told.nd rfl (Or.inl rfl) (pe_and (pe_cmpR op_gtU (pe_callB (r := rLenU K) call_lenU (by rfl) T.b_len PySem.boot_len (pa_cons (pv 6) pa_nil)) (pe_callB (r := rLenU K) call_lenU (by rfl) T.b_len PySem.boot_len (pa_cons (pv 2) pa_nil)) (nomark _)) (pe_one (pe_cmpR (r := rEqU K) (op_eqU hr.units) (pe_ix (r := rIx K) ix_seq (pv 6) (pe_op op_sub (pe_callB (r := rLenU K) call_lenU (by rfl) T.b_len PySem.boot_len (pa_cons (pv 6) pa_nil)) pe_int) (fun _ _ => rfl)) (pe_callTy (r := rTupleU K) call_tupleU (by rfl) T.b_tuple PyProof.Rows.boot_tuple (pa_cons (pe_lc (own := [("letter", 14)]) rfl sc__law_texts_told.nd (pi_seqU (pv 10)) (blkOk_by (N := N__law_texts_told) (sc := defScope s__law_texts_told) (by decide +kernel)) (fun _ _ _ _ _ => (pg_name (i := 14) sc__law_texts_told.nd rfl (Or.inl rfl))) (fun _ _ _ _ _ => pts_nil) (fun _ _ _ _ _ => (pv 14))) pa_nil)) (nomark _)))))
 (pss_cons (ps_set (i := 12) sc__law_texts_told.nd rfl (Or.inl rfl) (pe_cx c_is_derivation hr (by decide) pass0 (by rfl) (pa_cons (pv 0) (pa_cons (pv 10) (pa_cons (pv 9) pa_nil)))))
 (pss_one (ps_if (PW.pt (pw_or (pt_not (pt_truthK (K := K) rfl (pe_callB (r := rIsi K) call_isi (by rfl) T.b_isinstance (by decide +kernel) (pa_cons (pv 12) (pa_cons (pe_bltn (v := .ty "bool") (u := .type "bool") (by rfl) T.b_bool (by decide +kernel) rfl) pa_nil))) (fun _ => rfl))) (pw_or1 (pt_cmpR (r := rNeU K) (op_neU hr.units) (pv 12) (pv 11) (nomark _))))) (pss_one (ps_ret pe_bl)) pss_nil)))))
 (pss_one (ps_ret (pe_cmpR (r := rEqU K) (op_eqU hr.units) (pv 9) (pe_cx c__law_handed hr (by decide) pass0 (by rfl) (pa_cons (pv 2) (pa_cons (pv 5) pa_nil))) (nomark _))))))))), run_def (E := E) rfl (fun W0 => ?_) h⟩
    exact (vs_seq (vs_asg (vt_call (va_cons (vt_var 1) (va_cons (vt_var 2) va_nil))) (vg_name 6))
 (vs_seq (vs_asg (vt_join (b1 := false) (b2 := false) vt_str (vt_vn (vn_lc (vi_seqU (vt_ixv (i := 6) (b2 := false) (vt_opS (b1 := false) (b2 := false) ros_sub (vt_cbS (b1 := false) rcs_len (va_cons (vt_look 6) va_nil)) vt_int))) (vg_name 13) (by decide) vb_yes (vt_cbS (b1 := false) rcs_str (va_cons (vt_look 13) va_nil))))) (vg_name 7))
 (vs_seq (vs_asg (vt_join (b1 := false) (b2 := false) vt_str (vt_vn (vn_lc (vi_seqU (vt_ixv (i := 3) (b2 := false) (vt_opS (b1 := false) (b2 := false) ros_sub (vt_cbS (b1 := false) rcs_len (va_cons (vt_look 3) va_nil)) vt_int))) (vg_name 13) (by decide) vb_yes (vt_cbS (b1 := false) rcs_str (va_cons (vt_look 13) va_nil))))) (vg_name 8))
 (vs_seq (vs_asg (vt_call (va_cons (vt_var 2) (va_cons (vt_var 5) va_nil))) (vg_name 9))
 (vs_seq (vs_for (vi_seqU (vt_vn (vn_lst (va_cons (vt_var 7) (va_cons (vt_var 8) (va_cons (vt_op ro_add (vt_var 7) (vt_var 4)) (va_cons (vt_op ro_add (vt_var 4) (vt_var 7)) (va_cons (vt_cut (vt_var 7) (vo_some (b := false) vt_int) vo_none) (va_cons (vt_cut (vt_var 7) vo_none (vo_some (b := false) (vt_opS (b1 := false) (b2 := false) ros_sub (vt_cbS (b1 := false) rcs_len (va_cons (vt_look 7) va_nil)) vt_int))) (va_cons vt_str (va_cons vt_str (va_cons (vt_op ro_add vt_str (vt_cut (vt_var 8) (vo_some (b := false) vt_int) vo_none)) va_nil)))))))))))) (vg_name 10) (vs_seq (vs_asg (vt_andV (b1 := false) (b2 := false) (vt_opS (b1 := false) (b2 := false) ros_cmp (vt_cbS (b1 := false) rcs_len (va_cons (vt_look 6) va_nil)) (vt_cbS (b1 := false) rcs_len (va_cons (vt_look 2) va_nil))) (vt_opS (b1 := false) (b2 := false) ros_eq (vt_ixv (i := 6) (b2 := false) (vt_opS (b1 := false) (b2 := false) ros_sub (vt_cbS (b1 := false) rcs_len (va_cons (vt_look 6) va_nil)) vt_int)) (vt_cb rc_tuple (va_cons (vt_vn (vn_lc (vi_seqU (vt_var 10)) (vg_name 14) (by decide) vb_yes (vt_var 14))) va_nil)))) (vg_name 11))
 (vs_seq (vs_asg (vt_imm (b' := false) (vt_call (va_cons (vt_look 0) (va_cons (vt_look 10) (va_cons (vt_look 9) va_nil))))) (vg_name 12))
 (vs_if (vb_or (vb_not (vb_tru (b := false) (vt_isi (n := "bool") (b1 := false) (vt_look 12)))) (vb_test (b := false) (vt_opS (b1 := false) (b2 := false) ros_ne (vt_look 12) (vt_look 11)))) (vs_ret vt_bl) vs_next))))
 (vs_ret (vt_opS (b1 := false) (b2 := false) ros_eq (vt_look 9) (vt_call (va_cons (vt_look 2) (va_cons (vt_look 5) va_nil))))))))))), hm, F.kp, b⟩

theorem ok_law (T : Txt K mg A) (c_Grammar : MakX P w K mg base CX0 4 "Grammar" A.C_Grammar (spI K A.C_Grammar (i_Grammar A))) (c__law_alphabet : CalX P w K mg base CX0 2 "_law_alphabet" (spP K (m__law_alphabet A))) (c__law_beginnings_told : CalX P w K mg base CX0 6 "_law_beginnings_told" (spP K (m__law_beginnings_told A))) (c__law_cell : CalX P w K mg base CX0 1 "_law_cell" (spP K (m__law_cell A))) (c__law_changed_row : CalX P w K mg base CX0 3 "_law_changed_row" (spP K (m__law_changed_row A))) (c__law_digits : CalX P w K mg base CX0 1 "_law_digits" (spP K (m__law_digits A))) (c__law_drawn_row : CalX P w K mg base CX0 3 "_law_drawn_row" (spP K (m__law_drawn_row A))) (c__law_follow : CalX P w K mg base CX0 2 "_law_follow" (spP K (m__law_follow A))) (c__law_form_told : CalX P w K mg base CX0 3 "_law_form_told" (spP K (m__law_form_told A))) (c__law_row_told : CalX P w K mg base CX0 6 "_law_row_told" (spP K (m__law_row_told A))) (c__law_rules : CalX P w K mg base CX0 3 "_law_rules" (spP K (m__law_rules A))) (c__law_symbol : CalX P w K mg base CX0 1 "_law_symbol" (spP K (m__law_symbol A))) (c__law_texts_told : CalX P w K mg base CX0 4 "_law_texts_told" (spP K (m__law_texts_told A))) {f : Addr} {fd : FuncData} (F : Fun K "law" "law" s_law f fd) (hm : mg "law" = some (.ref f)) (b : Binds K fd ["script"] []) :
    CalX P w K mg base CX0 7 "law" (spP K (m_law A)) :=
  ⟨f, fd, ["script"], F.ok sc_law (spP_len fun ds r h => (mOf_len h).1) (fun cdv A' outer s H vs Q E hr h => by
    refine ⟨_, (pss_cons (ps_set (i := 1) sc_law.nd rfl (Or.inr rfl) (pe_cx c__law_alphabet hr (by decide) pass0 (by rfl) (pa_cons (pe_cx c__law_cell hr (by decide) pass0 (by rfl) (pa_cons (pv 0) (pa_cons pe_int pa_nil))) pa_nil)))
 (pss_cons (ps_set (i := 2) sc_law.nd rfl (Or.inl rfl) (pe_cx c__law_digits hr (by decide) pass0 (by rfl) (pa_cons (pe_cx c__law_cell hr (by decide) pass0 (by rfl) (pa_cons (pv 0) (pa_cons pe_int pa_nil))) (pa_cons (pe_lst (pa_cons pe_int (pa_cons pe_int (pa_cons pe_int (pa_cons pe_int (pa_cons pe_int (pa_cons pe_int (pa_cons (pe_op op_pow pe_int pe_int) pa_nil)))))))) pa_nil))))
 (pss_cons (ps_set (i := 3) sc_law.nd rfl (Or.inr rfl) (pe_op (r := rAddU K) op_addU pe_int (pe_ix (r := rIx K) ix_seq (pv 2) pe_int (fun _ _ => rfl))))
 (pss_cons (ps_if (pt_cmpR (r := rEqU K) (op_eqU hr.units) (pe_ix (r := rIx K) ix_seq (pv 2) pe_int (fun _ _ => rfl)) pe_int (nomark _)) (pss_one (ps_set (i := 3) sc_law.nd rfl (Or.inr rfl) pe_int)) pss_nil)
 (pss_cons (ps_set (i := 4) sc_law.nd rfl (Or.inr rfl) (pe_cx c__law_rules hr (by decide) pass0 (by rfl) (pa_cons (pv 0) (pa_cons (pv 1) (pa_cons (pv 3) pa_nil)))))
 (pss_cons (ps_set (i := 5) sc_law.nd rfl (Or.inl rfl) (pe_mx c_Grammar hr (by decide) pass0 (by rfl) (pa_cons (pv 1) (pa_cons (pv 3) (pa_cons (pe_lc (own := [("item", 19)]) rfl sc_law.nd (pi_seqU (pv 4)) (blkOk_by (N := N_law) (sc := defScope s_law) (by decide +kernel)) (fun _ _ _ _ _ => (pg_name (i := 19) sc_law.nd rfl (Or.inl rfl))) (fun _ _ _ _ _ => pts_nil) (fun _ _ _ _ _ => (pe_lst (pa_cons (pe_callTy (r := rListU K) call_listU (by rfl) T.b_list PyProof.Rows.boot_list (pa_cons (pe_ix (r := rIx K) ix_seq (pv 19) pe_int (fun _ _ => rfl)) pa_nil)) (pa_cons (pe_callTy (r := rListU K) call_listU (by rfl) T.b_list PyProof.Rows.boot_list (pa_cons (pe_ix (r := rIx K) ix_seq (pv 19) pe_int (fun _ _ => rfl)) pa_nil)) pa_nil))))) pa_nil)))))
 (pss_cons (ps_set (i := 6) sc_law.nd rfl (Or.inl rfl) (pe_cx c__law_drawn_row hr (by decide) pass0 (by rfl) (pa_cons (pv 0) (pa_cons (pv 4) pa_nil))))
 (pss_cons (ps_set (i := 7) sc_law.nd rfl (Or.inl rfl) (pe_cx c__law_follow hr (by decide) pass0 (by rfl) (pa_cons (pv 4) (pa_cons (pv 6) pa_nil))))
 (pss_cons (ps_if (PW.pt (pw_or (pt_cmpR (r := rEqU K) (op_eqU hr.units) (pe_callB (r := rLenU K) call_lenU (by rfl) T.b_len PySem.boot_len (pa_cons (pv 6) pa_nil)) pe_int (nomark _)) (pw_or1 (pt_cmpR (r := rNeU K) (op_neU hr.units) (pe_callB (r := rLenU K) call_lenU (by rfl) T.b_len PySem.boot_len (pa_cons (pv 7) pa_nil)) (pe_op (r := rAddU K) op_addU (pe_callB (r := rLenU K) call_lenU (by rfl) T.b_len PySem.boot_len (pa_cons (pv 6) pa_nil)) pe_int) (nomark _))))) (pss_one (ps_ret pe_bl)) pss_nil)
 (pss_cons (ps_set (i := 8) sc_law.nd rfl (Or.inl rfl) (pe_cx c__law_digits hr (by decide) pass0 (by rfl) (pa_cons (pe_cx c__law_cell hr (by decide) pass0 (by rfl) (pa_cons (pv 0) (pa_cons pe_int pa_nil))) (pa_cons (pe_op op_mulU (pe_lst (pa_cons pe_int pa_nil)) pe_int) pa_nil))))
 (pss_cons (ps_set (i := 9) sc_law.nd rfl (Or.inl rfl) (pe_callTy (r := rTupleU K) call_tupleU (by rfl) T.b_tuple PyProof.Rows.boot_tuple (pa_cons (pe_lc (own := [("digit", 20)]) rfl sc_law.nd (pi_seqU (pe_slice (r := rCutU K) sl_U (pv 8) po_none (po_some (pe_ix (r := rIx K) ix_seq (pv 2) pe_int (fun _ _ => rfl))))) (blkOk_by (N := N_law) (sc := defScope s_law) (by decide +kernel)) (fun _ _ _ _ _ => (pg_name (i := 20) sc_law.nd rfl (Or.inl rfl))) (fun _ _ _ _ _ => pts_nil) (fun _ _ _ _ _ => (pe_cx c__law_symbol hr (by decide) pass0 (by rfl) (pa_cons (pv 20) (pa_cons (pv 1) (pa_cons (pv 3) pa_nil)))))) pa_nil)))
 (pss_cons (ps_for PassesOwn.never rfl (pi_seqU (pe_lst (pa_cons (pe_ix (r := rIx K) ix_seq (pv 7) (pe_op op_mod (pe_callTy call_intU (by rfl) T.b_int PyProof.Rows.boot_int (pa_cons (pe_ix (r := rIx K) ix_seq (pv 2) pe_int (fun _ _ => rfl)) pa_nil)) (pe_callB (call_minU rfl) (by rfl) T.b_min (by decide +kernel) (pa_cons (pe_callB (r := rLenU K) call_lenU (by rfl) T.b_len PySem.boot_len (pa_cons (pv 7) pa_nil)) (pa_cons pe_int pa_nil)))) (fun _ _ => rfl)) (pa_cons (pv 9) pa_nil)))) (pg_name (i := 10) sc_law.nd rfl (Or.inl rfl)) (pss_one (ps_if (pt_not (pt_truthK (K := K) rfl (pe_cx c__law_form_told hr (by decide) pass0 (by rfl) (pa_cons (pv 5) (pa_cons (pv 4) (pa_cons (pv 10) (pa_cons (pe_ix (r := rIx K) ix_seq (pv 2) pe_int (fun _ _ => rfl)) pa_nil))))) (fun _ => rfl))) (pss_one (ps_ret pe_bl)) pss_nil)))
 (pss_cons (ps_set (i := 11) sc_law.nd rfl (Or.inl rfl) (pe_joinU (K := K) rfl pe_str (pe_lc (own := [("symbol", 21)]) rfl sc_law.nd (pi_seqU (pe_ix (r := rIx K) ix_seq (pv 7) (pe_op op_sub (pe_callB (r := rLenU K) call_lenU (by rfl) T.b_len PySem.boot_len (pa_cons (pv 7) pa_nil)) pe_int) (fun _ _ => rfl))) (blkOk_by (N := N_law) (sc := defScope s_law) (by decide +kernel)) (fun _ _ _ _ _ => (pg_name (i := 21) sc_law.nd rfl (Or.inl rfl))) (fun _ _ _ _ _ => pts_nil) (fun _ _ _ _ _ => (pe_callTy (r := rStrU) call_strU (by rfl) T.b_str (by decide +kernel) (pa_cons (pv 21) pa_nil))))))
 (pss_cons (ps_if (pt_not (pt_truthK (K := K) rfl (pe_cx c__law_beginnings_told hr (by decide) pass0 (by rfl) (pa_cons (pv 5) (pa_cons (pv 6) (pa_cons (pv 7) (pa_cons (pv 11) pa_nil))))) (fun _ => rfl))) (pss_one (ps_ret pe_bl)) pss_nil)
 (pss_cons (ps_set (i := 12) sc_law.nd rfl (Or.inl rfl) (pe_slice (r := rCutU K) sl_U (pv 6) po_none (po_some (pe_op op_mod (pe_callTy call_intU (by rfl) T.b_int PyProof.Rows.boot_int (pa_cons (pe_ix (r := rIx K) ix_seq (pv 2) pe_int (fun _ _ => rfl)) pa_nil)) (pe_callB (r := rLenU K) call_lenU (by rfl) T.b_len PySem.boot_len (pa_cons (pv 6) pa_nil))))))
 (pss_cons (ps_set (i := 13) sc_law.nd rfl (Or.inl rfl) (pe_lst (pa_cons (pv 6) (pa_cons (pv 12) (pa_cons (pe_lst pa_nil) (pa_cons (pe_op (r := rAddU K) op_addU (pv 6) (pe_lst (pa_cons (pe_ix (r := rIx K) ix_seq (pv 6) (pe_op op_mod (pe_callTy call_intU (by rfl) T.b_int PyProof.Rows.boot_int (pa_cons (pe_ix (r := rIx K) ix_seq (pv 2) pe_int (fun _ _ => rfl)) pa_nil)) (pe_callB (r := rLenU K) call_lenU (by rfl) T.b_len PySem.boot_len (pa_cons (pv 6) pa_nil))) (fun _ _ => rfl)) pa_nil))) pa_nil))))))
 (pss_cons (ps_set (i := 14) sc_law.nd rfl (Or.inr rfl) (pe_cx c__law_digits hr (by decide) pass0 (by rfl) (pa_cons (pe_cx c__law_cell hr (by decide) pass0 (by rfl) (pa_cons (pv 0) (pa_cons pe_int pa_nil))) (pa_cons (pe_op op_mulU (pe_lst (pa_cons pe_int (pa_cons pe_int pa_nil))) pe_int) pa_nil))))
 (pss_cons (ps_expr (pe_bm PySem.F.plainAttrs_list PySem.F.slot_list_append PySem.F.type_list_append mt_append (pv 13) (pa_cons (pe_op (r := rAddU K) op_addU (pe_slice (r := rCutU K) sl_U (pv 6) po_none (po_some pe_int)) (pe_lc (own := [("k", 15)]) rfl sc_law.nd (pi_range1 (by rfl) T.b_range (pa_cons pe_int pa_nil)) (blkOk_by (N := N_law) (sc := defScope s_law) (by decide +kernel)) (fun _ _ _ _ _ => (pg_name (i := 15) sc_law.nd rfl (Or.inl rfl))) (fun _ _ _ _ _ => pts_nil) (fun _ _ _ _ _ => (pe_tup (pa_cons (pe_op op_mod (pe_callTy call_intU (by rfl) T.b_int PyProof.Rows.boot_int (pa_cons (pe_ix (r := rIx K) ix_seq (pv 14) (pe_op op_mulU pe_int (pv 15)) (fun _ _ => rfl)) pa_nil)) (pe_op (r := rAddU K) op_addU (pe_callB (r := rLenU K) call_lenU (by rfl) T.b_len PySem.boot_len (pa_cons (pv 4) pa_nil)) pe_int)) (pa_cons (pe_op op_sub (pe_ix (r := rIx K) ix_seq (pv 14) (pe_op (r := rAddU K) op_addU (pe_op op_mulU pe_int (pv 15)) pe_int) (fun _ _ => rfl)) pe_int) pa_nil)))))) pa_nil)))
 (pss_cons (ps_for PassesOwn.never rfl (pi_range1 (by rfl) T.b_range (pa_cons pe_int pa_nil)) (pg_name (i := 15) sc_law.nd rfl (Or.inl rfl)) (pss_cons (ps_set (i := 16) sc_law.nd rfl (Or.inl rfl) (pe_cx c__law_digits hr (by decide) pass0 (by rfl) (pa_cons (pe_cx c__law_cell hr (by decide) pass0 (by rfl) (pa_cons (pv 0) (pa_cons (pe_op (r := rAddU K) op_addU pe_int (pv 15)) pa_nil))) (pa_cons (pe_lst (pa_cons pe_int (pa_cons pe_int (pa_cons pe_int (pa_cons pe_int (pa_cons (pe_op op_pow pe_int pe_int) pa_nil)))))) pa_nil))))
 (pss_one (ps_expr (pe_bm PySem.F.plainAttrs_list PySem.F.slot_list_append PySem.F.type_list_append mt_append (pv 13) (pa_cons (pe_cx c__law_changed_row hr (by decide) pass0 (by rfl) (pa_cons (pv 4) (pa_cons (pv 6) (pa_cons (pv 16) pa_nil)))) pa_nil))))))
 (pss_cons (ps_for PassesOwn.never rfl (pi_range1 (by rfl) T.b_range (pa_cons (pe_callB (r := rLenU K) call_lenU (by rfl) T.b_len PySem.boot_len (pa_cons (pv 13) pa_nil)) pa_nil)) (pg_name (i := 15) sc_law.nd rfl (Or.inl rfl)) (pss_cons (ps_if (pt_not (pt_truthK (K := K) rfl (pe_cx c__law_row_told hr (by decide) pass0 (by rfl) (pa_cons (pv 5) (pa_cons (pv 4) (pa_cons (pe_ix (r := rIx K) ix_seq (pv 13) (pv 15) (fun _ _ => rfl)) (pa_cons (pe_op op_mod (pe_callTy call_intU (by rfl) T.b_int PyProof.Rows.boot_int (pa_cons (pe_op (r := rAddU K) op_addU (pe_ix (r := rIx K) ix_seq (pv 2) pe_int (fun _ _ => rfl)) (pv 15)) pa_nil)) pe_int) pa_nil))))) (fun _ => rfl))) (pss_one (ps_ret pe_bl)) pss_nil)
 (pss_one (ps_if (pt_not (pt_truthK (K := K) rfl (pe_cx c__law_texts_told hr (by decide) pass0 (by rfl) (pa_cons (pv 5) (pa_cons (pv 4) (pa_cons (pe_ix (r := rIx K) ix_seq (pv 13) (pv 15) (fun _ _ => rfl)) (pa_cons (pv 7) (pa_cons (pe_ix (r := rIx K) ix_seq (pv 1) pe_int (fun _ _ => rfl)) (pa_cons (pe_op op_mod (pe_callTy call_intU (by rfl) T.b_int PyProof.Rows.boot_int (pa_cons (pe_op (r := rAddU K) op_addU (pe_ix (r := rIx K) ix_seq (pv 2) pe_int (fun _ _ => rfl)) (pv 15)) pa_nil)) pe_int) pa_nil))))))) (fun _ => rfl))) (pss_one (ps_ret pe_bl)) pss_nil))))
 (pss_cons (ps_set (i := 17) sc_law.nd rfl (Or.inl rfl) (pe_op (r := rAddU K) op_addU (pe_slice (r := rCutU K) sl_U (pv 4) (po_some pe_int) po_none) (pe_slice (r := rCutU K) sl_U (pv 4) po_none (po_some pe_int))))
 (pss_cons (ps_set (i := 18) sc_law.nd rfl (Or.inl rfl) (pe_mx c_Grammar hr (by decide) pass0 (by rfl) (pa_cons (pv 1) (pa_cons (pv 3) (pa_cons (pe_callTy (r := rListU K) call_listU (by rfl) T.b_list PyProof.Rows.boot_list (pa_cons (pv 17) pa_nil)) pa_nil)))))
 (pss_cons (ps_if (pt_not (pt_truthK (K := K) rfl (pe_cx c__law_row_told hr (by decide) pass0 (by rfl) (pa_cons (pv 18) (pa_cons (pv 17) (pa_cons (pv 6) (pa_cons pe_int pa_nil))))) (fun _ => rfl))) (pss_one (ps_ret pe_bl)) pss_nil)
 (pss_cons (ps_if (pt_not (pt_truthK (K := K) rfl (pe_cx c__law_texts_told hr (by decide) pass0 (by rfl) (pa_cons (pv 18) (pa_cons (pv 17) (pa_cons (pv 6) (pa_cons (pv 7) (pa_cons (pe_ix (r := rIx K) ix_seq (pv 1) pe_int (fun _ _ => rfl)) (pa_cons pe_int pa_nil))))))) (fun _ => rfl))) (pss_one (ps_ret pe_bl)) pss_nil)
 (pss_one (ps_ret (pe_and (pe_cx c__law_row_told hr (by decide) pass0 (by rfl) (pa_cons (pv 5) (pa_cons (pv 4) (pa_cons (pv 6) (pa_cons pe_int pa_nil))))) (pe_one (pe_cx c__law_texts_told hr (by decide) pass0 (by rfl) (pa_cons (pv 5) (pa_cons (pv 4) (pa_cons (pv 6) (pa_cons (pv 7) (pa_cons (pe_ix (r := rIx K) ix_seq (pv 1) pe_int (fun _ _ => rfl)) (pa_cons pe_int pa_nil))))))))))))))))))))))))))))))))))), run_def (E := E) rfl (fun W0 => ?_) h⟩
    exact (vs_seq (vs_asg (vt_call (va_cons (vt_call (va_cons (vt_var 0) (va_cons vt_int va_nil))) va_nil)) (vg_name 1))
 (vs_seq (vs_asg (vt_call (va_cons (vt_call (va_cons (vt_var 0) (va_cons vt_int va_nil))) (va_cons (vt_vn (vn_lst (va_cons vt_int (va_cons vt_int (va_cons vt_int (va_cons vt_int (va_cons vt_int (va_cons vt_int (va_cons (vt_opS (b1 := false) (b2 := false) (ros_I (C := CPow) (f := fun i j => i ^ j.toNat)) vt_int vt_int) va_nil))))))))) va_nil))) (vg_name 2))
 (vs_seq (vs_asg (vt_op ro_add vt_int (vt_ixv (i := 2) (b2 := false) vt_int)) (vg_name 3))
 (vs_seq (vs_if (vb_test (b := false) (vt_opS (b1 := false) (b2 := false) ros_eq (vt_ixv (i := 2) (b2 := false) vt_int) vt_int)) (vs_asg vt_int (vg_name 3)) vs_next)
 (vs_seq (vs_asg (vt_call (va_cons (vt_var 0) (va_cons (vt_var 1) (va_cons (vt_var 3) va_nil)))) (vg_name 4))
 (vs_seq (vs_asg (vt_make (va_cons (vt_var 1) (va_cons (vt_var 3) (va_cons (vt_vn (vn_lc (vi_seqU (vt_var 4)) (vg_name 19) (by decide) vb_yes (vt_vn (vn_lst (va_cons (vt_vn (vn_list (vt_ixv (i := 19) (b2 := false) vt_int))) (va_cons (vt_vn (vn_list (vt_ixv (i := 19) (b2 := false) vt_int))) va_nil)))))) va_nil)))) (vg_name 5))
 (vs_seq (vs_asg (vt_call (va_cons (vt_var 0) (va_cons (vt_var 4) va_nil))) (vg_name 6))
 (vs_seq (vs_asg (vt_call (va_cons (vt_var 4) (va_cons (vt_var 6) va_nil))) (vg_name 7))
 (vs_seq (vs_if (vb_or (vb_test (b := false) (vt_opS (b1 := false) (b2 := false) ros_eq (vt_cbS (b1 := false) rcs_len (va_cons (vt_look 6) va_nil)) vt_int)) (vb_test (b := false) (vt_opS (b1 := false) (b2 := false) ros_ne (vt_cbS (b1 := false) rcs_len (va_cons (vt_look 7) va_nil)) (vt_op ro_add (vt_cbS (b1 := false) rcs_len (va_cons (vt_look 6) va_nil)) vt_int)))) (vs_ret vt_bl) vs_next)
 (vs_seq (vs_asg (vt_call (va_cons (vt_call (va_cons (vt_var 0) (va_cons vt_int va_nil))) (va_cons (vt_op ro_mul (vt_vn (vn_lst (va_cons vt_int va_nil))) vt_int) va_nil))) (vg_name 8))
 (vs_seq (vs_asg (vt_cb rc_tuple (va_cons (vt_vn (vn_lc (vi_seqU (vt_cut (vt_var 8) vo_none (vo_some (b := false) (vt_ixv (i := 2) (b2 := false) vt_int)))) (vg_name 20) (by decide) vb_yes (vt_call (va_cons (vt_var 20) (va_cons (vt_var 1) (va_cons (vt_var 3) va_nil)))))) va_nil)) (vg_name 9))
 (vs_seq (vs_for (vi_seqU (vt_vn (vn_lst (va_cons (vt_ixv (i := 7) (b2 := false) (vt_opS (b1 := false) (b2 := false) (ros_I (C := PosR) (f := fun i j => i % j)) (vt_cbS (b1 := false) rcs_int (va_cons (vt_ixv (i := 2) (b2 := false) vt_int) va_nil)) (vt_cbS (b1 := false) rcs_min (va_cons (vt_cbS (b1 := false) rcs_len (va_cons (vt_look 7) va_nil)) (va_cons vt_int va_nil))))) (va_cons (vt_var 9) va_nil))))) (vg_name 10) (vs_if (vb_not (vb_tru (b := false) (vt_call (va_cons (vt_look 5) (va_cons (vt_look 4) (va_cons (vt_look 10) (va_cons (vt_ixv (i := 2) (b2 := false) vt_int) va_nil))))))) (vs_ret vt_bl) vs_next))
 (vs_seq (vs_asg (vt_join (b1 := false) (b2 := false) vt_str (vt_vn (vn_lc (vi_seqU (vt_ixv (i := 7) (b2 := false) (vt_opS (b1 := false) (b2 := false) ros_sub (vt_cbS (b1 := false) rcs_len (va_cons (vt_look 7) va_nil)) vt_int))) (vg_name 21) (by decide) vb_yes (vt_cbS (b1 := false) rcs_str (va_cons (vt_look 21) va_nil))))) (vg_name 11))
 (vs_seq (vs_if (vb_not (vb_tru (b := false) (vt_call (va_cons (vt_look 5) (va_cons (vt_look 6) (va_cons (vt_look 7) (va_cons (vt_look 11) va_nil))))))) (vs_ret vt_bl) vs_next)
 (vs_seq (vs_asg (vt_cut (vt_var 6) vo_none (vo_some (b := false) (vt_opS (b1 := false) (b2 := false) (ros_I (C := PosR) (f := fun i j => i % j)) (vt_cbS (b1 := false) rcs_int (va_cons (vt_ixv (i := 2) (b2 := false) vt_int) va_nil)) (vt_cbS (b1 := false) rcs_len (va_cons (vt_look 6) va_nil))))) (vg_name 12))
 (vs_seq (vs_asgN (i := 13) (vn_lst (va_cons (vt_var 6) (va_cons (vt_var 12) (va_cons (vt_vn (vn_lst va_nil)) (va_cons (vt_op ro_add (vt_var 6) (vt_vn (vn_lst (va_cons (vt_ixv (i := 6) (b2 := false) (vt_opS (b1 := false) (b2 := false) (ros_I (C := PosR) (f := fun i j => i % j)) (vt_cbS (b1 := false) rcs_int (va_cons (vt_ixv (i := 2) (b2 := false) vt_int) va_nil)) (vt_cbS (b1 := false) rcs_len (va_cons (vt_look 6) va_nil)))) va_nil)))) va_nil))))))
 (vs_seq (vs_asg (vt_call (va_cons (vt_call (va_cons (vt_var 0) (va_cons vt_int va_nil))) (va_cons (vt_op ro_mul (vt_vn (vn_lst (va_cons vt_int (va_cons vt_int va_nil)))) vt_int) va_nil))) (vg_name 14))
 (vs_seq (vs_append (i := 13) (vt_op ro_add (vt_cut (vt_var 6) vo_none (vo_some (b := false) vt_int)) (vt_vn (vn_lc (vi_rg1 (b := false) (va_cons vt_int va_nil)) (vg_name 15) (by decide) vb_yes (vt_tup (va_cons (vt_opS (b1 := false) (b2 := false) (ros_I (C := PosR) (f := fun i j => i % j)) (vt_cbS (b1 := false) rcs_int (va_cons (vt_ixv (i := 14) (b2 := false) (vt_op ro_mul vt_int (vt_look 15))) va_nil)) (vt_op ro_add (vt_cbS (b1 := false) rcs_len (va_cons (vt_look 4) va_nil)) vt_int)) (va_cons (vt_opS (b1 := false) (b2 := false) ros_sub (vt_ixv (i := 14) (b2 := false) (vt_op ro_add (vt_op ro_mul vt_int (vt_look 15)) vt_int)) vt_int) va_nil)))))))
 (vs_seq (vs_for (vi_rg1 (b := false) (va_cons vt_int va_nil)) (vg_name 15) (vs_seq (vs_asg (vt_call (va_cons (vt_call (va_cons (vt_var 0) (va_cons (vt_op ro_add vt_int (vt_var 15)) va_nil))) (va_cons (vt_vn (vn_lst (va_cons vt_int (va_cons vt_int (va_cons vt_int (va_cons vt_int (va_cons (vt_opS (b1 := false) (b2 := false) (ros_I (C := CPow) (f := fun i j => i ^ j.toNat)) vt_int vt_int) va_nil))))))) va_nil))) (vg_name 16))
 (vs_append (i := 13) (vt_call (va_cons (vt_var 4) (va_cons (vt_var 6) (va_cons (vt_var 16) va_nil)))))))
 (vs_seq (vs_for (vi_rg1 (b := false) (va_cons (vt_cbS (b1 := false) rcs_len (va_cons (vt_look 13) va_nil)) va_nil)) (vg_name 15) (vs_seq (vs_if (vb_not (vb_tru (b := false) (vt_call (va_cons (vt_look 5) (va_cons (vt_look 4) (va_cons (vt_ixv (i := 13) (b2 := false) (vt_look 15)) (va_cons (vt_opS (b1 := false) (b2 := false) (ros_I (C := PosR) (f := fun i j => i % j)) (vt_cbS (b1 := false) rcs_int (va_cons (vt_op ro_add (vt_ixv (i := 2) (b2 := false) vt_int) (vt_look 15)) va_nil)) vt_int) va_nil))))))) (vs_ret vt_bl) vs_next)
 (vs_if (vb_not (vb_tru (b := false) (vt_call (va_cons (vt_look 5) (va_cons (vt_look 4) (va_cons (vt_ixv (i := 13) (b2 := false) (vt_look 15)) (va_cons (vt_look 7) (va_cons (vt_ixv (i := 1) (b2 := false) vt_int) (va_cons (vt_opS (b1 := false) (b2 := false) (ros_I (C := PosR) (f := fun i j => i % j)) (vt_cbS (b1 := false) rcs_int (va_cons (vt_op ro_add (vt_ixv (i := 2) (b2 := false) vt_int) (vt_look 15)) va_nil)) vt_int) va_nil))))))))) (vs_ret vt_bl) vs_next)))
 (vs_seq (vs_asg (vt_op ro_add (vt_cut (vt_var 4) (vo_some (b := false) vt_int) vo_none) (vt_cut (vt_var 4) vo_none (vo_some (b := false) vt_int))) (vg_name 17))
 (vs_seq (vs_asg (vt_make (va_cons (vt_var 1) (va_cons (vt_var 3) (va_cons (vt_vn (vn_list (vt_var 17))) va_nil)))) (vg_name 18))
 (vs_seq (vs_if (vb_not (vb_tru (b := false) (vt_call (va_cons (vt_look 18) (va_cons (vt_look 17) (va_cons (vt_look 6) (va_cons vt_int va_nil))))))) (vs_ret vt_bl) vs_next)
 (vs_seq (vs_if (vb_not (vb_tru (b := false) (vt_call (va_cons (vt_look 18) (va_cons (vt_look 17) (va_cons (vt_look 6) (va_cons (vt_look 7) (va_cons (vt_ixv (i := 1) (b2 := false) vt_int) (va_cons vt_int va_nil))))))))) (vs_ret vt_bl) vs_next)
 (vs_ret (vt_andV (b1 := false) (b2 := false) (vt_call (va_cons (vt_look 5) (va_cons (vt_look 4) (va_cons (vt_look 6) (va_cons vt_int va_nil))))) (vt_call (va_cons (vt_look 5) (va_cons (vt_look 4) (va_cons (vt_look 6) (va_cons (vt_look 7) (va_cons (vt_ixv (i := 1) (b2 := false) vt_int) (va_cons vt_int va_nil)))))))))))))))))))))))))))))))))), hm, F.kp, b⟩

end
end K40
end

section
namespace K40
open PySem PySem.Spec PyProof.Rows L2 VL

abbrev s_x_BadRow : Stmt := inClass (top 4) 0
abbrev N_x_BadRow : List Str := ["self", "index"]
theorem sc_x_BadRow : FnScope N_x_BadRow ["self", "index"] (defScope s_x_BadRow) := ⟨rfl, rfl, rfl, by decide +kernel, rfl, by decide +kernel, by decide +kernel⟩
section
variable {P : Program} {w : World} {K : PySem.W.Frag} {mg : Str → Option Value} {base : Heap} {A : Ad}
theorem ok_x_BadRow (T : Txt K mg A) (O : OexC K A.C_BadRow) {f : Addr} {fd : FuncData} (iC : PySem.W.findIn K (.ref A.C_BadRow) "__init__" = some (some (.ref f))) (tI : PySem.W.typeIn K (.ref f) = some (.type "function")) (F : Fun K "__init__" "BadRow.__init__" s_x_BadRow f fd) (b : Binds K fd ["self", "index"] []) :
    ExcX P w K mg base 1 "BadRow" A.C_BadRow (spX1 A.C_BadRow "index") :=
  ⟨f, fd, ["self", "index"], O, iC, tI, F.ok sc_x_BadRow (fun vs H Q E h => by obtain ⟨a, y, rfl, _⟩ := h; rfl) (fun cdv A' outer s H vs Q E hr h => ⟨_, (pss_one (ps_ost (pv 0) (pv 1) rfl)), x1_run O T.xn_BadRow_index h⟩), b, T.g_BadRow⟩
theorem okF_law (T : Txt K mg A) (c_Grammar : MakX P w K mg base CX0 4 "Grammar" A.C_Grammar (spI K A.C_Grammar (i_Grammar A))) (c__law_alphabet : CalX P w K mg base CX0 2 "_law_alphabet" (spP K (m__law_alphabet A))) (c__law_beginnings_told : CalX P w K mg base CX0 6 "_law_beginnings_told" (spP K (m__law_beginnings_told A))) (c__law_cell : CalX P w K mg base CX0 1 "_law_cell" (spP K (m__law_cell A))) (c__law_changed_row : CalX P w K mg base CX0 3 "_law_changed_row" (spP K (m__law_changed_row A))) (c__law_digits : CalX P w K mg base CX0 1 "_law_digits" (spP K (m__law_digits A))) (c__law_drawn_row : CalX P w K mg base CX0 3 "_law_drawn_row" (spP K (m__law_drawn_row A))) (c__law_follow : CalX P w K mg base CX0 2 "_law_follow" (spP K (m__law_follow A))) (c__law_form_told : CalX P w K mg base CX0 3 "_law_form_told" (spP K (m__law_form_told A))) (c__law_row_told : CalX P w K mg base CX0 6 "_law_row_told" (spP K (m__law_row_told A))) (c__law_rules : CalX P w K mg base CX0 3 "_law_rules" (spP K (m__law_rules A))) (c__law_symbol : CalX P w K mg base CX0 1 "_law_symbol" (spP K (m__law_symbol A))) (c__law_texts_told : CalX P w K mg base CX0 4 "_law_texts_told" (spP K (m__law_texts_told A))) {f : Addr} {fd : FuncData} (F : Fun K "law" "law" s_law f fd) : FnOk P w K mg base CX0 7 f fd ["script"] (spP K (m_law A)) :=
  F.ok sc_law (spP_len fun ds r h => (mOf_len h).1) (fun cdv A' outer s H vs Q E hr h => by
    refine ⟨_, (pss_cons (ps_set (i := 1) sc_law.nd rfl (Or.inr rfl) (pe_cx c__law_alphabet hr (by decide) pass0 (by rfl) (pa_cons (pe_cx c__law_cell hr (by decide) pass0 (by rfl) (pa_cons (pv 0) (pa_cons pe_int pa_nil))) pa_nil)))
 (pss_cons (ps_set (i := 2) sc_law.nd rfl (Or.inl rfl) (pe_cx c__law_digits hr (by decide) pass0 (by rfl) (pa_cons (pe_cx c__law_cell hr (by decide) pass0 (by rfl) (pa_cons (pv 0) (pa_cons pe_int pa_nil))) (pa_cons (pe_lst (pa_cons pe_int (pa_cons pe_int (pa_cons pe_int (pa_cons pe_int (pa_cons pe_int (pa_cons pe_int (pa_cons (pe_op op_pow pe_int pe_int) pa_nil)))))))) pa_nil))))
 (pss_cons (ps_set (i := 3) sc_law.nd rfl (Or.inr rfl) (pe_op (r := rAddU K) op_addU pe_int (pe_ix (r := rIx K) ix_seq (pv 2) pe_int (fun _ _ => rfl))))
 (pss_cons (ps_if (pt_cmpR (r := rEqU K) (op_eqU hr.units) (pe_ix (r := rIx K) ix_seq (pv 2) pe_int (fun _ _ => rfl)) pe_int (nomark _)) (pss_one (ps_set (i := 3) sc_law.nd rfl (Or.inr rfl) pe_int)) pss_nil)
 (pss_cons (ps_set (i := 4) sc_law.nd rfl (Or.inr rfl) (pe_cx c__law_rules hr (by decide) pass0 (by rfl) (pa_cons (pv 0) (pa_cons (pv 1) (pa_cons (pv 3) pa_nil)))))
 (pss_cons (ps_set (i := 5) sc_law.nd rfl (Or.inl rfl) (pe_mx c_Grammar hr (by decide) pass0 (by rfl) (pa_cons (pv 1) (pa_cons (pv 3) (pa_cons (pe_lc (own := [("item", 19)]) rfl sc_law.nd (pi_seqU (pv 4)) (blkOk_by (N := N_law) (sc := defScope s_law) (by decide +kernel)) (fun _ _ _ _ _ => (pg_name (i := 19) sc_law.nd rfl (Or.inl rfl))) (fun _ _ _ _ _ => pts_nil) (fun _ _ _ _ _ => (pe_lst (pa_cons (pe_callTy (r := rListU K) call_listU (by rfl) T.b_list PyProof.Rows.boot_list (pa_cons (pe_ix (r := rIx K) ix_seq (pv 19) pe_int (fun _ _ => rfl)) pa_nil)) (pa_cons (pe_callTy (r := rListU K) call_listU (by rfl) T.b_list PyProof.Rows.boot_list (pa_cons (pe_ix (r := rIx K) ix_seq (pv 19) pe_int (fun _ _ => rfl)) pa_nil)) pa_nil))))) pa_nil)))))
 (pss_cons (ps_set (i := 6) sc_law.nd rfl (Or.inl rfl) (pe_cx c__law_drawn_row hr (by decide) pass0 (by rfl) (pa_cons (pv 0) (pa_cons (pv 4) pa_nil))))
 (pss_cons (ps_set (i := 7) sc_law.nd rfl (Or.inl rfl) (pe_cx c__law_follow hr (by decide) pass0 (by rfl) (pa_cons (pv 4) (pa_cons (pv 6) pa_nil))))
 (pss_cons (ps_if (PW.pt (pw_or (pt_cmpR (r := rEqU K) (op_eqU hr.units) (pe_callB (r := rLenU K) call_lenU (by rfl) T.b_len PySem.boot_len (pa_cons (pv 6) pa_nil)) pe_int (nomark _)) (pw_or1 (pt_cmpR (r := rNeU K) (op_neU hr.units) (pe_callB (r := rLenU K) call_lenU (by rfl) T.b_len PySem.boot_len (pa_cons (pv 7) pa_nil)) (pe_op (r := rAddU K) op_addU (pe_callB (r := rLenU K) call_lenU (by rfl) T.b_len PySem.boot_len (pa_cons (pv 6) pa_nil)) pe_int) (nomark _))))) (pss_one (ps_ret pe_bl)) pss_nil)
 (pss_cons (ps_set (i := 8) sc_law.nd rfl (Or.inl rfl) (pe_cx c__law_digits hr (by decide) pass0 (by rfl) (pa_cons (pe_cx c__law_cell hr (by decide) pass0 (by rfl) (pa_cons (pv 0) (pa_cons pe_int pa_nil))) (pa_cons (pe_op op_mulU (pe_lst (pa_cons pe_int pa_nil)) pe_int) pa_nil))))
 (pss_cons (ps_set (i := 9) sc_law.nd rfl (Or.inl rfl) (pe_callTy (r := rTupleU K) call_tupleU (by rfl) T.b_tuple PyProof.Rows.boot_tuple (pa_cons (pe_lc (own := [("digit", 20)]) rfl sc_law.nd (pi_seqU (pe_slice (r := rCutU K) sl_U (pv 8) po_none (po_some (pe_ix (r := rIx K) ix_seq (pv 2) pe_int (fun _ _ => rfl))))) (blkOk_by (N := N_law) (sc := defScope s_law) (by decide +kernel)) (fun _ _ _ _ _ => (pg_name (i := 20) sc_law.nd rfl (Or.inl rfl))) (fun _ _ _ _ _ => pts_nil) (fun _ _ _ _ _ => (pe_cx c__law_symbol hr (by decide) pass0 (by rfl) (pa_cons (pv 20) (pa_cons (pv 1) (pa_cons (pv 3) pa_nil)))))) pa_nil)))
 (pss_cons (ps_for PassesOwn.never rfl (pi_seqU (pe_lst (pa_cons (pe_ix (r := rIx K) ix_seq (pv 7) (pe_op op_mod (pe_callTy call_intU (by rfl) T.b_int PyProof.Rows.boot_int (pa_cons (pe_ix (r := rIx K) ix_seq (pv 2) pe_int (fun _ _ => rfl)) pa_nil)) (pe_callB (call_minU rfl) (by rfl) T.b_min (by decide +kernel) (pa_cons (pe_callB (r := rLenU K) call_lenU (by rfl) T.b_len PySem.boot_len (pa_cons (pv 7) pa_nil)) (pa_cons pe_int pa_nil)))) (fun _ _ => rfl)) (pa_cons (pv 9) pa_nil)))) (pg_name (i := 10) sc_law.nd rfl (Or.inl rfl)) (pss_one (ps_if (pt_not (pt_truthK (K := K) rfl (pe_cx c__law_form_told hr (by decide) pass0 (by rfl) (pa_cons (pv 5) (pa_cons (pv 4) (pa_cons (pv 10) (pa_cons (pe_ix (r := rIx K) ix_seq (pv 2) pe_int (fun _ _ => rfl)) pa_nil))))) (fun _ => rfl))) (pss_one (ps_ret pe_bl)) pss_nil)))
 (pss_cons (ps_set (i := 11) sc_law.nd rfl (Or.inl rfl) (pe_joinU (K := K) rfl pe_str (pe_lc (own := [("symbol", 21)]) rfl sc_law.nd (pi_seqU (pe_ix (r := rIx K) ix_seq (pv 7) (pe_op op_sub (pe_callB (r := rLenU K) call_lenU (by rfl) T.b_len PySem.boot_len (pa_cons (pv 7) pa_nil)) pe_int) (fun _ _ => rfl))) (blkOk_by (N := N_law) (sc := defScope s_law) (by decide +kernel)) (fun _ _ _ _ _ => (pg_name (i := 21) sc_law.nd rfl (Or.inl rfl))) (fun _ _ _ _ _ => pts_nil) (fun _ _ _ _ _ => (pe_callTy (r := rStrU) call_strU (by rfl) T.b_str (by decide +kernel) (pa_cons (pv 21) pa_nil))))))
 (pss_cons (ps_if (pt_not (pt_truthK (K := K) rfl (pe_cx c__law_beginnings_told hr (by decide) pass0 (by rfl) (pa_cons (pv 5) (pa_cons (pv 6) (pa_cons (pv 7) (pa_cons (pv 11) pa_nil))))) (fun _ => rfl))) (pss_one (ps_ret pe_bl)) pss_nil)
 (pss_cons (ps_set (i := 12) sc_law.nd rfl (Or.inl rfl) (pe_slice (r := rCutU K) sl_U (pv 6) po_none (po_some (pe_op op_mod (pe_callTy call_intU (by rfl) T.b_int PyProof.Rows.boot_int (pa_cons (pe_ix (r := rIx K) ix_seq (pv 2) pe_int (fun _ _ => rfl)) pa_nil)) (pe_callB (r := rLenU K) call_lenU (by rfl) T.b_len PySem.boot_len (pa_cons (pv 6) pa_nil))))))
 (pss_cons (ps_set (i := 13) sc_law.nd rfl (Or.inl rfl) (pe_lst (pa_cons (pv 6) (pa_cons (pv 12) (pa_cons (pe_lst pa_nil) (pa_cons (pe_op (r := rAddU K) op_addU (pv 6) (pe_lst (pa_cons (pe_ix (r := rIx K) ix_seq (pv 6) (pe_op op_mod (pe_callTy call_intU (by rfl) T.b_int PyProof.Rows.boot_int (pa_cons (pe_ix (r := rIx K) ix_seq (pv 2) pe_int (fun _ _ => rfl)) pa_nil)) (pe_callB (r := rLenU K) call_lenU (by rfl) T.b_len PySem.boot_len (pa_cons (pv 6) pa_nil))) (fun _ _ => rfl)) pa_nil))) pa_nil))))))
 (pss_cons (ps_set (i := 14) sc_law.nd rfl (Or.inr rfl) (pe_cx c__law_digits hr (by decide) pass0 (by rfl) (pa_cons (pe_cx c__law_cell hr (by decide) pass0 (by rfl) (pa_cons (pv 0) (pa_cons pe_int pa_nil))) (pa_cons (pe_op op_mulU (pe_lst (pa_cons pe_int (pa_cons pe_int pa_nil))) pe_int) pa_nil))))
 (pss_cons (ps_expr (pe_bm PySem.F.plainAttrs_list PySem.F.slot_list_append PySem.F.type_list_append mt_append (pv 13) (pa_cons (pe_op (r := rAddU K) op_addU (pe_slice (r := rCutU K) sl_U (pv 6) po_none (po_some pe_int)) (pe_lc (own := [("k", 15)]) rfl sc_law.nd (pi_range1 (by rfl) T.b_range (pa_cons pe_int pa_nil)) (blkOk_by (N := N_law) (sc := defScope s_law) (by decide +kernel)) (fun _ _ _ _ _ => (pg_name (i := 15) sc_law.nd rfl (Or.inl rfl))) (fun _ _ _ _ _ => pts_nil) (fun _ _ _ _ _ => (pe_tup (pa_cons (pe_op op_mod (pe_callTy call_intU (by rfl) T.b_int PyProof.Rows.boot_int (pa_cons (pe_ix (r := rIx K) ix_seq (pv 14) (pe_op op_mulU pe_int (pv 15)) (fun _ _ => rfl)) pa_nil)) (pe_op (r := rAddU K) op_addU (pe_callB (r := rLenU K) call_lenU (by rfl) T.b_len PySem.boot_len (pa_cons (pv 4) pa_nil)) pe_int)) (pa_cons (pe_op op_sub (pe_ix (r := rIx K) ix_seq (pv 14) (pe_op (r := rAddU K) op_addU (pe_op op_mulU pe_int (pv 15)) pe_int) (fun _ _ => rfl)) pe_int) pa_nil)))))) pa_nil)))
 (pss_cons (ps_for PassesOwn.never rfl (pi_range1 (by rfl) T.b_range (pa_cons pe_int pa_nil)) (pg_name (i := 15) sc_law.nd rfl (Or.inl rfl)) (pss_cons (ps_set (i := 16) sc_law.nd rfl (Or.inl rfl) (pe_cx c__law_digits hr (by decide) pass0 (by rfl) (pa_cons (pe_cx c__law_cell hr (by decide) pass0 (by rfl) (pa_cons (pv 0) (pa_cons (pe_op (r := rAddU K) op_addU pe_int (pv 15)) pa_nil))) (pa_cons (pe_lst (pa_cons pe_int (pa_cons pe_int (pa_cons pe_int (pa_cons pe_int (pa_cons (pe_op op_pow pe_int pe_int) pa_nil)))))) pa_nil))))
 (pss_one (ps_expr (pe_bm PySem.F.plainAttrs_list PySem.F.slot_list_append PySem.F.type_list_append mt_append (pv 13) (pa_cons (pe_cx c__law_changed_row hr (by decide) pass0 (by rfl) (pa_cons (pv 4) (pa_cons (pv 6) (pa_cons (pv 16) pa_nil)))) pa_nil))))))
 (pss_cons (ps_for PassesOwn.never rfl (pi_range1 (by rfl) T.b_range (pa_cons (pe_callB (r := rLenU K) call_lenU (by rfl) T.b_len PySem.boot_len (pa_cons (pv 13) pa_nil)) pa_nil)) (pg_name (i := 15) sc_law.nd rfl (Or.inl rfl)) (pss_cons (ps_if (pt_not (pt_truthK (K := K) rfl (pe_cx c__law_row_told hr (by decide) pass0 (by rfl) (pa_cons (pv 5) (pa_cons (pv 4) (pa_cons (pe_ix (r := rIx K) ix_seq (pv 13) (pv 15) (fun _ _ => rfl)) (pa_cons (pe_op op_mod (pe_callTy call_intU (by rfl) T.b_int PyProof.Rows.boot_int (pa_cons (pe_op (r := rAddU K) op_addU (pe_ix (r := rIx K) ix_seq (pv 2) pe_int (fun _ _ => rfl)) (pv 15)) pa_nil)) pe_int) pa_nil))))) (fun _ => rfl))) (pss_one (ps_ret pe_bl)) pss_nil)
 (pss_one (ps_if (pt_not (pt_truthK (K := K) rfl (pe_cx c__law_texts_told hr (by decide) pass0 (by rfl) (pa_cons (pv 5) (pa_cons (pv 4) (pa_cons (pe_ix (r := rIx K) ix_seq (pv 13) (pv 15) (fun _ _ => rfl)) (pa_cons (pv 7) (pa_cons (pe_ix (r := rIx K) ix_seq (pv 1) pe_int (fun _ _ => rfl)) (pa_cons (pe_op op_mod (pe_callTy call_intU (by rfl) T.b_int PyProof.Rows.boot_int (pa_cons (pe_op (r := rAddU K) op_addU (pe_ix (r := rIx K) ix_seq (pv 2) pe_int (fun _ _ => rfl)) (pv 15)) pa_nil)) pe_int) pa_nil))))))) (fun _ => rfl))) (pss_one (ps_ret pe_bl)) pss_nil))))
 (pss_cons (ps_set (i := 17) sc_law.nd rfl (Or.inl rfl) (pe_op (r := rAddU K) op_addU (pe_slice (r := rCutU K) sl_U (pv 4) (po_some pe_int) po_none) (pe_slice (r := rCutU K) sl_U (pv 4) po_none (po_some pe_int))))
 (pss_cons (ps_set (i := 18) sc_law.nd rfl (Or.inl rfl) (pe_mx c_Grammar hr (by decide) pass0 (by rfl) (pa_cons (pv 1) (pa_cons (pv 3) (pa_cons (pe_callTy (r := rListU K) call_listU (by rfl) T.b_list PyProof.Rows.boot_list (pa_cons (pv 17) pa_nil)) pa_nil)))))
 (pss_cons (ps_if (pt_not (pt_truthK (K := K) rfl (pe_cx c__law_row_told hr (by decide) pass0 (by rfl) (pa_cons (pv 18) (pa_cons (pv 17) (pa_cons (pv 6) (pa_cons pe_int pa_nil))))) (fun _ => rfl))) (pss_one (ps_ret pe_bl)) pss_nil)
 (pss_cons (ps_if (pt_not (pt_truthK (K := K) rfl (pe_cx c__law_texts_told hr (by decide) pass0 (by rfl) (pa_cons (pv 18) (pa_cons (pv 17) (pa_cons (pv 6) (pa_cons (pv 7) (pa_cons (pe_ix (r := rIx K) ix_seq (pv 1) pe_int (fun _ _ => rfl)) (pa_cons pe_int pa_nil))))))) (fun _ => rfl))) (pss_one (ps_ret pe_bl)) pss_nil)
 (pss_one (ps_ret (pe_and (pe_cx c__law_row_told hr (by decide) pass0 (by rfl) (pa_cons (pv 5) (pa_cons (pv 4) (pa_cons (pv 6) (pa_cons pe_int pa_nil))))) (pe_one (pe_cx c__law_texts_told hr (by decide) pass0 (by rfl) (pa_cons (pv 5) (pa_cons (pv 4) (pa_cons (pv 6) (pa_cons (pv 7) (pa_cons (pe_ix (r := rIx K) ix_seq (pv 1) pe_int (fun _ _ => rfl)) (pa_cons pe_int pa_nil))))))))))))))))))))))))))))))))))), run_def (E := E) rfl (fun W0 => ?_) h⟩
    exact (vs_seq (vs_asg (vt_call (va_cons (vt_call (va_cons (vt_var 0) (va_cons vt_int va_nil))) va_nil)) (vg_name 1))
 (vs_seq (vs_asg (vt_call (va_cons (vt_call (va_cons (vt_var 0) (va_cons vt_int va_nil))) (va_cons (vt_vn (vn_lst (va_cons vt_int (va_cons vt_int (va_cons vt_int (va_cons vt_int (va_cons vt_int (va_cons vt_int (va_cons (vt_opS (b1 := false) (b2 := false) (ros_I (C := CPow) (f := fun i j => i ^ j.toNat)) vt_int vt_int) va_nil))))))))) va_nil))) (vg_name 2))
 (vs_seq (vs_asg (vt_op ro_add vt_int (vt_ixv (i := 2) (b2 := false) vt_int)) (vg_name 3))
 (vs_seq (vs_if (vb_test (b := false) (vt_opS (b1 := false) (b2 := false) ros_eq (vt_ixv (i := 2) (b2 := false) vt_int) vt_int)) (vs_asg vt_int (vg_name 3)) vs_next)
 (vs_seq (vs_asg (vt_call (va_cons (vt_var 0) (va_cons (vt_var 1) (va_cons (vt_var 3) va_nil)))) (vg_name 4))
 (vs_seq (vs_asg (vt_make (va_cons (vt_var 1) (va_cons (vt_var 3) (va_cons (vt_vn (vn_lc (vi_seqU (vt_var 4)) (vg_name 19) (by decide) vb_yes (vt_vn (vn_lst (va_cons (vt_vn (vn_list (vt_ixv (i := 19) (b2 := false) vt_int))) (va_cons (vt_vn (vn_list (vt_ixv (i := 19) (b2 := false) vt_int))) va_nil)))))) va_nil)))) (vg_name 5))
 (vs_seq (vs_asg (vt_call (va_cons (vt_var 0) (va_cons (vt_var 4) va_nil))) (vg_name 6))
 (vs_seq (vs_asg (vt_call (va_cons (vt_var 4) (va_cons (vt_var 6) va_nil))) (vg_name 7))
 (vs_seq (vs_if (vb_or (vb_test (b := false) (vt_opS (b1 := false) (b2 := false) ros_eq (vt_cbS (b1 := false) rcs_len (va_cons (vt_look 6) va_nil)) vt_int)) (vb_test (b := false) (vt_opS (b1 := false) (b2 := false) ros_ne (vt_cbS (b1 := false) rcs_len (va_cons (vt_look 7) va_nil)) (vt_op ro_add (vt_cbS (b1 := false) rcs_len (va_cons (vt_look 6) va_nil)) vt_int)))) (vs_ret vt_bl) vs_next)
 (vs_seq (vs_asg (vt_call (va_cons (vt_call (va_cons (vt_var 0) (va_cons vt_int va_nil))) (va_cons (vt_op ro_mul (vt_vn (vn_lst (va_cons vt_int va_nil))) vt_int) va_nil))) (vg_name 8))
 (vs_seq (vs_asg (vt_cb rc_tuple (va_cons (vt_vn (vn_lc (vi_seqU (vt_cut (vt_var 8) vo_none (vo_some (b := false) (vt_ixv (i := 2) (b2 := false) vt_int)))) (vg_name 20) (by decide) vb_yes (vt_call (va_cons (vt_var 20) (va_cons (vt_var 1) (va_cons (vt_var 3) va_nil)))))) va_nil)) (vg_name 9))
 (vs_seq (vs_for (vi_seqU (vt_vn (vn_lst (va_cons (vt_ixv (i := 7) (b2 := false) (vt_opS (b1 := false) (b2 := false) (ros_I (C := PosR) (f := fun i j => i % j)) (vt_cbS (b1 := false) rcs_int (va_cons (vt_ixv (i := 2) (b2 := false) vt_int) va_nil)) (vt_cbS (b1 := false) rcs_min (va_cons (vt_cbS (b1 := false) rcs_len (va_cons (vt_look 7) va_nil)) (va_cons vt_int va_nil))))) (va_cons (vt_var 9) va_nil))))) (vg_name 10) (vs_if (vb_not (vb_tru (b := false) (vt_call (va_cons (vt_look 5) (va_cons (vt_look 4) (va_cons (vt_look 10) (va_cons (vt_ixv (i := 2) (b2 := false) vt_int) va_nil))))))) (vs_ret vt_bl) vs_next))
 (vs_seq (vs_asg (vt_join (b1 := false) (b2 := false) vt_str (vt_vn (vn_lc (vi_seqU (vt_ixv (i := 7) (b2 := false) (vt_opS (b1 := false) (b2 := false) ros_sub (vt_cbS (b1 := false) rcs_len (va_cons (vt_look 7) va_nil)) vt_int))) (vg_name 21) (by decide) vb_yes (vt_cbS (b1 := false) rcs_str (va_cons (vt_look 21) va_nil))))) (vg_name 11))
 (vs_seq (vs_if (vb_not (vb_tru (b := false) (vt_call (va_cons (vt_look 5) (va_cons (vt_look 6) (va_cons (vt_look 7) (va_cons (vt_look 11) va_nil))))))) (vs_ret vt_bl) vs_next)
 (vs_seq (vs_asg (vt_cut (vt_var 6) vo_none (vo_some (b := false) (vt_opS (b1 := false) (b2 := false) (ros_I (C := PosR) (f := fun i j => i % j)) (vt_cbS (b1 := false) rcs_int (va_cons (vt_ixv (i := 2) (b2 := false) vt_int) va_nil)) (vt_cbS (b1 := false) rcs_len (va_cons (vt_look 6) va_nil))))) (vg_name 12))
 (vs_seq (vs_asgN (i := 13) (vn_lst (va_cons (vt_var 6) (va_cons (vt_var 12) (va_cons (vt_vn (vn_lst va_nil)) (va_cons (vt_op ro_add (vt_var 6) (vt_vn (vn_lst (va_cons (vt_ixv (i := 6) (b2 := false) (vt_opS (b1 := false) (b2 := false) (ros_I (C := PosR) (f := fun i j => i % j)) (vt_cbS (b1 := false) rcs_int (va_cons (vt_ixv (i := 2) (b2 := false) vt_int) va_nil)) (vt_cbS (b1 := false) rcs_len (va_cons (vt_look 6) va_nil)))) va_nil)))) va_nil))))))
 (vs_seq (vs_asg (vt_call (va_cons (vt_call (va_cons (vt_var 0) (va_cons vt_int va_nil))) (va_cons (vt_op ro_mul (vt_vn (vn_lst (va_cons vt_int (va_cons vt_int va_nil)))) vt_int) va_nil))) (vg_name 14))
 (vs_seq (vs_append (i := 13) (vt_op ro_add (vt_cut (vt_var 6) vo_none (vo_some (b := false) vt_int)) (vt_vn (vn_lc (vi_rg1 (b := false) (va_cons vt_int va_nil)) (vg_name 15) (by decide) vb_yes (vt_tup (va_cons (vt_opS (b1 := false) (b2 := false) (ros_I (C := PosR) (f := fun i j => i % j)) (vt_cbS (b1 := false) rcs_int (va_cons (vt_ixv (i := 14) (b2 := false) (vt_op ro_mul vt_int (vt_look 15))) va_nil)) (vt_op ro_add (vt_cbS (b1 := false) rcs_len (va_cons (vt_look 4) va_nil)) vt_int)) (va_cons (vt_opS (b1 := false) (b2 := false) ros_sub (vt_ixv (i := 14) (b2 := false) (vt_op ro_add (vt_op ro_mul vt_int (vt_look 15)) vt_int)) vt_int) va_nil)))))))
 (vs_seq (vs_for (vi_rg1 (b := false) (va_cons vt_int va_nil)) (vg_name 15) (vs_seq (vs_asg (vt_call (va_cons (vt_call (va_cons (vt_var 0) (va_cons (vt_op ro_add vt_int (vt_var 15)) va_nil))) (va_cons (vt_vn (vn_lst (va_cons vt_int (va_cons vt_int (va_cons vt_int (va_cons vt_int (va_cons (vt_opS (b1 := false) (b2 := false) (ros_I (C := CPow) (f := fun i j => i ^ j.toNat)) vt_int vt_int) va_nil))))))) va_nil))) (vg_name 16))
 (vs_append (i := 13) (vt_call (va_cons (vt_var 4) (va_cons (vt_var 6) (va_cons (vt_var 16) va_nil)))))))
 (vs_seq (vs_for (vi_rg1 (b := false) (va_cons (vt_cbS (b1 := false) rcs_len (va_cons (vt_look 13) va_nil)) va_nil)) (vg_name 15) (vs_seq (vs_if (vb_not (vb_tru (b := false) (vt_call (va_cons (vt_look 5) (va_cons (vt_look 4) (va_cons (vt_ixv (i := 13) (b2 := false) (vt_look 15)) (va_cons (vt_opS (b1 := false) (b2 := false) (ros_I (C := PosR) (f := fun i j => i % j)) (vt_cbS (b1 := false) rcs_int (va_cons (vt_op ro_add (vt_ixv (i := 2) (b2 := false) vt_int) (vt_look 15)) va_nil)) vt_int) va_nil))))))) (vs_ret vt_bl) vs_next)
 (vs_if (vb_not (vb_tru (b := false) (vt_call (va_cons (vt_look 5) (va_cons (vt_look 4) (va_cons (vt_ixv (i := 13) (b2 := false) (vt_look 15)) (va_cons (vt_look 7) (va_cons (vt_ixv (i := 1) (b2 := false) vt_int) (va_cons (vt_opS (b1 := false) (b2 := false) (ros_I (C := PosR) (f := fun i j => i % j)) (vt_cbS (b1 := false) rcs_int (va_cons (vt_op ro_add (vt_ixv (i := 2) (b2 := false) vt_int) (vt_look 15)) va_nil)) vt_int) va_nil))))))))) (vs_ret vt_bl) vs_next)))
 (vs_seq (vs_asg (vt_op ro_add (vt_cut (vt_var 4) (vo_some (b := false) vt_int) vo_none) (vt_cut (vt_var 4) vo_none (vo_some (b := false) vt_int))) (vg_name 17))
 (vs_seq (vs_asg (vt_make (va_cons (vt_var 1) (va_cons (vt_var 3) (va_cons (vt_vn (vn_list (vt_var 17))) va_nil)))) (vg_name 18))
 (vs_seq (vs_if (vb_not (vb_tru (b := false) (vt_call (va_cons (vt_look 18) (va_cons (vt_look 17) (va_cons (vt_look 6) (va_cons vt_int va_nil))))))) (vs_ret vt_bl) vs_next)
 (vs_seq (vs_if (vb_not (vb_tru (b := false) (vt_call (va_cons (vt_look 18) (va_cons (vt_look 17) (va_cons (vt_look 6) (va_cons (vt_look 7) (va_cons (vt_ixv (i := 1) (b2 := false) vt_int) (va_cons vt_int va_nil))))))))) (vs_ret vt_bl) vs_next)
 (vs_ret (vt_andV (b1 := false) (b2 := false) (vt_call (va_cons (vt_look 5) (va_cons (vt_look 4) (va_cons (vt_look 6) (va_cons vt_int va_nil))))) (vt_call (va_cons (vt_look 5) (va_cons (vt_look 4) (va_cons (vt_look 6) (va_cons (vt_look 7) (va_cons (vt_ixv (i := 1) (b2 := false) vt_int) (va_cons vt_int va_nil))))))))))))))))))))))))))))))))))
end
/-- the law's promise: True, whatever the script -/
def spTrue (K : PySem.W.Frag) : Sp := fun vs H Q _ => ∃ (a : Addr) (xs : List Int), vs = [.ref a] ∧ xs.length ≤ 63 ∧ SqL K H a (xs.map V.int) ∧ ∀ H', Q (.bl true) H'
theorem fnOk_true {P : Program} {w : World} {K : PySem.W.Frag} {mg : Str → Option Value} {base : Heap} {CX : CXT} {k : Nat} {f : Addr} {fd : FuncData} {ps : List Str} {M : Ad → List D → Option Res} (hM : ∀ A (xs : List Int), M A [.scr (iD xs)] = some (.val (.bl true))) (A : Ad)
    (F : FnOk P w K mg base CX k f fd ps (spP K (M A))) : FnOk P w K mg base CX k f fd ps (spTrue K) := by
  have key : ∀ vs H Q E, spTrue K vs H Q E → spP K (M A) vs H Q E := by
    rintro vs H Q E ⟨a, xs, rfl, hl, hS, hq⟩
    refine ⟨H, [.scr (iD xs)], .val (.bl true), Same.refl _, .cons (.scr hS (DenL.of_ints xs)) .nil, hM A xs, fun H' F' v _ _ _ _ hd => ?_⟩
    cases hd
    exact hq H'
  exact F.imp key
theorem all_mk {l : PySem.W.OpenLaw} {w : World} {K : PySem.W.Frag} {h : Heap} {mg : Str → Option Value} {fa : Addr} (X : K.In h) (G : h.Ns mainGlobals mg) (hfa : mg "law" = some (.ref fa))
    {C0 : Addr}
    {fi0 : Addr} {odi0 ani0 : Option Addr} {sli0 : Array (Option Value)} {oci0 kVi0 dci0 pmi0 cdi0 cti0 : Value}
    {X0 : Addr} {nmX0 qX0 : Str} {NX0 : Addr} {bsX0 bmX0 : List Value} {snX0 : List Str} {subX0 : List Value} {abX0 : Bool} {colX0 : Option Bool} {ddX0 : Option Addr} {m0X0 m1X0 m2X0 m3X0 m5X0 : Option Value}
    {fx0 : Addr} {odx0 anx0 : Option Addr} {slx0 : Array (Option Value)} {ocx0 kVx0 dcx0 pmx0 cdx0 ctx0 : Value}
    {B0 : Addr}
    {B1 : Addr}
    {B2 : Addr}
    {B3 : Addr}
    {B4 : Addr}
    {fd0 : Addr} {odd0 and0 : Option Addr} {sld0 : Array (Option Value)} {ocd0 kVd0 dcd0 pmd0 cdd0 ctd0 : Value}
    {fd1 : Addr} {odd1 and1 : Option Addr} {sld1 : Array (Option Value)} {ocd1 kVd1 dcd1 pmd1 cdd1 ctd1 : Value}
    {fd2 : Addr} {odd2 and2 : Option Addr} {sld2 : Array (Option Value)} {ocd2 kVd2 dcd2 pmd2 cdd2 ctd2 : Value}
    {fd3 : Addr} {odd3 and3 : Option Addr} {sld3 : Array (Option Value)} {ocd3 kVd3 dcd3 pmd3 cdd3 ctd3 : Value}
    {fd4 : Addr} {odd4 and4 : Option Addr} {sld4 : Array (Option Value)} {ocd4 kVd4 dcd4 pmd4 cdd4 ctd4 : Value}
    {fd5 : Addr} {odd5 and5 : Option Addr} {sld5 : Array (Option Value)} {ocd5 kVd5 dcd5 pmd5 cdd5 ctd5 : Value}
    {fd6 : Addr} {odd6 and6 : Option Addr} {sld6 : Array (Option Value)} {ocd6 kVd6 dcd6 pmd6 cdd6 ctd6 : Value}
    {fd7 : Addr} {odd7 and7 : Option Addr} {sld7 : Array (Option Value)} {ocd7 kVd7 dcd7 pmd7 cdd7 ctd7 : Value}
    {fd8 : Addr} {odd8 and8 : Option Addr} {sld8 : Array (Option Value)} {ocd8 kVd8 dcd8 pmd8 cdd8 ctd8 : Value}
    {fd9 : Addr} {odd9 and9 : Option Addr} {sld9 : Array (Option Value)} {ocd9 kVd9 dcd9 pmd9 cdd9 ctd9 : Value}
    {fd10 : Addr} {odd10 and10 : Option Addr} {sld10 : Array (Option Value)} {ocd10 kVd10 dcd10 pmd10 cdd10 ctd10 : Value}
    {fd11 : Addr} {odd11 and11 : Option Addr} {sld11 : Array (Option Value)} {ocd11 kVd11 dcd11 pmd11 cdd11 ctd11 : Value}
    {fd12 : Addr} {odd12 and12 : Option Addr} {sld12 : Array (Option Value)} {ocd12 kVd12 dcd12 pmd12 cdd12 ctd12 : Value}
    {fd13 : Addr} {odd13 and13 : Option Addr} {sld13 : Array (Option Value)} {ocd13 kVd13 dcd13 pmd13 cdd13 ctd13 : Value}
    {fd14 : Addr} {odd14 and14 : Option Addr} {sld14 : Array (Option Value)} {ocd14 kVd14 dcd14 pmd14 cdd14 ctd14 : Value}
    {fd15 : Addr} {odd15 and15 : Option Addr} {sld15 : Array (Option Value)} {ocd15 kVd15 dcd15 pmd15 cdd15 ctd15 : Value}
    {fd16 : Addr} {odd16 and16 : Option Addr} {sld16 : Array (Option Value)} {ocd16 kVd16 dcd16 pmd16 cdd16 ctd16 : Value}
    {fd17 : Addr} {odd17 and17 : Option Addr} {sld17 : Array (Option Value)} {ocd17 kVd17 dcd17 pmd17 cdd17 ctd17 : Value}
    {fd18 : Addr} {odd18 and18 : Option Addr} {sld18 : Array (Option Value)} {ocd18 kVd18 dcd18 pmd18 cdd18 ctd18 : Value}
    {fd19 : Addr} {odd19 and19 : Option Addr} {sld19 : Array (Option Value)} {ocd19 kVd19 dcd19 pmd19 cdd19 ctd19 : Value}
    {fd20 : Addr} {odd20 and20 : Option Addr} {sld20 : Array (Option Value)} {ocd20 kVd20 dcd20 pmd20 cdd20 ctd20 : Value}
    {fd21 : Addr} {odd21 and21 : Option Addr} {sld21 : Array (Option Value)} {ocd21 kVd21 dcd21 pmd21 cdd21 ctd21 : Value}
    {fd22 : Addr} {odd22 and22 : Option Addr} {sld22 : Array (Option Value)} {ocd22 kVd22 dcd22 pmd22 cdd22 ctd22 : Value}
    {fd23 : Addr} {odd23 and23 : Option Addr} {sld23 : Array (Option Value)} {ocd23 kVd23 dcd23 pmd23 cdd23 ctd23 : Value}
    {fd24 : Addr} {odd24 and24 : Option Addr} {sld24 : Array (Option Value)} {ocd24 kVd24 dcd24 pmd24 cdd24 ctd24 : Value}
    {fd25 : Addr} {odd25 and25 : Option Addr} {sld25 : Array (Option Value)} {ocd25 kVd25 dcd25 pmd25 cdd25 ctd25 : Value}
    {fd26 : Addr} {odd26 and26 : Option Addr} {sld26 : Array (Option Value)} {ocd26 kVd26 dcd26 pmd26 cdd26 ctd26 : Value}
    {fd27 : Addr} {odd27 and27 : Option Addr} {sld27 : Array (Option Value)} {ocd27 kVd27 dcd27 pmd27 cdd27 ctd27 : Value}
    {fd28 : Addr} {odd28 and28 : Option Addr} {sld28 : Array (Option Value)} {ocd28 kVd28 dcd28 pmd28 cdd28 ctd28 : Value}
    {fd29 : Addr} {odd29 and29 : Option Addr} {sld29 : Array (Option Value)} {ocd29 kVd29 dcd29 pmd29 cdd29 ctd29 : Value}
    {fd30 : Addr} {odd30 and30 : Option Addr} {sld30 : Array (Option Value)} {ocd30 kVd30 dcd30 pmd30 cdd30 ctd30 : Value}
    {fd31 : Addr} {odd31 and31 : Option Addr} {sld31 : Array (Option Value)} {ocd31 kVd31 dcd31 pmd31 cdd31 ctd31 : Value}
    {fd32 : Addr} {odd32 and32 : Option Addr} {sld32 : Array (Option Value)} {ocd32 kVd32 dcd32 pmd32 cdd32 ctd32 : Value}
    {fd33 : Addr} {odd33 and33 : Option Addr} {sld33 : Array (Option Value)} {ocd33 kVd33 dcd33 pmd33 cdd33 ctd33 : Value}
    {fd34 : Addr} {odd34 and34 : Option Addr} {sld34 : Array (Option Value)} {ocd34 kVd34 dcd34 pmd34 cdd34 ctd34 : Value}
    {tk_LETTERS : Nat}
    (aC0 : PySem.W.nsIn K mainGlobals "Grammar" = some (some (.ref C0)))
    (ai0 : PySem.W.findIn K (.ref C0) "__init__" = some (some (.ref fi0))) (ii0 : PySem.W.isFn K (.ref fi0) = true)
    (li0 : K.lookup fi0 = some ⟨oci0, odi0, .func (PySem.W.fnOf "__init__" "Grammar.__init__" (defArgs s_Grammar_init) (defBody s_Grammar_init) (defScope s_Grammar_init) .none kVi0 dci0 pmi0 ani0 cdi0 cti0), sli0⟩) (ci0 : PySem.W.codeIn K cdi0 "Grammar.__init__" = true) (ki0 : PySem.W.keepIn K (.ref fi0) = true)
    (pgC0 : PySem.W.plainGet K C0 Str.empty = true) (hdC0 : PySem.W.hasDictIn K C0 = true) (poC0 : PySem.W.plainOver K C0 = true) (saC0 : PySem.W.findIn K (.ref C0) "__setattr__" = some (some (.builtin "object.__setattr__"))) (mkC0 : PySem.W.makesIn K C0 = true) (kcC0 : PySem.W.keepIn K (.ref C0) = true)
    (nC0_alphabet : PySem.W.findIn K (.ref C0) "alphabet" = some none)
    (nC0_variables : PySem.W.findIn K (.ref C0) "variables" = some none)
    (nC0_rules : PySem.W.findIn K (.ref C0) "rules" = some none)
    (aX0 : PySem.W.nsIn K mainGlobals "BadRow" = some (some (.ref X0)))
    (LX0 : K.lookup X0 = some (excClassObj nmX0 qX0 X0 NX0 bsX0 bmX0 true snX0 subX0 abX0 colX0 ddX0 m0X0 m1X0 m2X0 m3X0 m5X0 "ValueError.__new__")) (rvX0 : PySem.HandSPX.refsVE bmX0 = true)
    (ax0 : PySem.W.findIn K (.ref X0) "__init__" = some (some (.ref fx0))) (tx0 : PySem.W.typeIn K (.ref fx0) = some (.type "function"))
    (lx0 : K.lookup fx0 = some ⟨ocx0, odx0, .func (PySem.W.fnOf "__init__" "BadRow.__init__" (defArgs s_x_BadRow) (defBody s_x_BadRow) (defScope s_x_BadRow) .none kVx0 dcx0 pmx0 anx0 cdx0 ctx0), slx0⟩) (cx0 : PySem.W.codeIn K cdx0 "BadRow.__init__" = true) (kx0 : PySem.W.keepIn K (.ref fx0) = true)
    (saX0 : PySem.W.findIn K (.ref X0) "__setattr__" = some (some (.builtin "object.__setattr__"))) (gaX0 : PySem.W.findIn K (.ref X0) "__getattribute__" = some (some (.builtin "BaseException.__getattribute__"))) (ggX0 : PySem.W.findIn K (.ref X0) "__getattr__" = some none)
    (kCX0 : PySem.W.keepIn K (.ref X0) = true) (eCX0 : PySem.W.subIn K (.ref X0) (.type "BaseException") = some true) (tCX0 : PySem.W.typeIn K (.ref X0) = some (.type "type")) (hCX0 : PySem.W.hasDictIn K X0 = true) (iCX0 : PySem.W.isClsIn K X0 = true) (sCX0 : PySem.W.subIn K (.ref X0) (.ref X0) = some true)
    (nX0_index : PySem.W.findIn K (.ref X0) "index" = some none)
    (aB0 : PySem.W.nsIn K mainGlobals "BadForm" = some (some (.ref B0))) (eCB0 : PySem.W.subIn K (.ref B0) (.type "BaseException") = some true) (iCB0 : PySem.W.isClsIn K B0 = true) (tCB0 : PySem.W.typeIn K (.ref B0) = some (.type "type"))
    (aB1 : PySem.W.nsIn K mainGlobals "BadRule" = some (some (.ref B1))) (eCB1 : PySem.W.subIn K (.ref B1) (.type "BaseException") = some true) (iCB1 : PySem.W.isClsIn K B1 = true) (tCB1 : PySem.W.typeIn K (.ref B1) = some (.type "type"))
    (aB2 : PySem.W.nsIn K mainGlobals "BadRun" = some (some (.ref B2))) (eCB2 : PySem.W.subIn K (.ref B2) (.type "BaseException") = some true) (iCB2 : PySem.W.isClsIn K B2 = true) (tCB2 : PySem.W.typeIn K (.ref B2) = some (.type "type"))
    (aB3 : PySem.W.nsIn K mainGlobals "LeashError" = some (some (.ref B3))) (eCB3 : PySem.W.subIn K (.ref B3) (.type "BaseException") = some true) (iCB3 : PySem.W.isClsIn K B3 = true) (tCB3 : PySem.W.typeIn K (.ref B3) = some (.type "type"))
    (aB4 : PySem.W.nsIn K mainGlobals "NotOfKind" = some (some (.ref B4))) (eCB4 : PySem.W.subIn K (.ref B4) (.type "BaseException") = some true) (iCB4 : PySem.W.isClsIn K B4 = true) (tCB4 : PySem.W.typeIn K (.ref B4) = some (.type "type"))
    (atX0 : PySem.W.findIn K (.ref X0) "__class__" = some (some (.builtin "object.__class__"))) (gtX0 : PySem.W.specialIn K (.builtin "object.__class__") "__get__" = some (some (.builtin "getset_descriptor.__get__"))) (tkX0 : PySem.W.takesIn K (.builtin "object.__class__") = some true) (mrX0 : PySem.W.mroIn K X0 (.type "object") = some true)
    (uBadRow_qBadForm : PySem.W.subIn K (.ref X0) (.ref B0) = some false)
    (neBadRow_qBadForm : X0 ≠ B0)
    (uBadRow_qBadRule : PySem.W.subIn K (.ref X0) (.ref B1) = some false)
    (neBadRow_qBadRule : X0 ≠ B1)
    (uBadRow_qBadRun : PySem.W.subIn K (.ref X0) (.ref B2) = some false)
    (neBadRow_qBadRun : X0 ≠ B2)
    (uBadRow_qNotOfKind : PySem.W.subIn K (.ref X0) (.ref B4) = some false)
    (neBadRow_qNotOfKind : X0 ≠ B4)
    (uBadRow_qValueError : PySem.W.subIn K (.ref X0) (.type "ValueError") = some true)
    (uBadRow_xLeashError : PySem.W.subIn K (.ref X0) (.ref B3) = some true)
    (ad0 : PySem.W.nsIn K mainGlobals "is_alphabet" = some (some (.ref fd0)))
    (ld0 : K.lookup fd0 = some ⟨ocd0, odd0, .func (PySem.W.fnOf "is_alphabet" "is_alphabet" (defArgs s_is_alphabet) (defBody s_is_alphabet) (defScope s_is_alphabet) .none kVd0 dcd0 pmd0 and0 cdd0 ctd0), sld0⟩) (cd0 : PySem.W.codeIn K cdd0 "is_alphabet" = true) (kd0 : PySem.W.keepIn K (.ref fd0) = true)
    (ad1 : PySem.W.nsIn K mainGlobals "check_alphabet" = some (some (.ref fd1)))
    (ld1 : K.lookup fd1 = some ⟨ocd1, odd1, .func (PySem.W.fnOf "check_alphabet" "check_alphabet" (defArgs s_check_alphabet) (defBody s_check_alphabet) (defScope s_check_alphabet) .none kVd1 dcd1 pmd1 and1 cdd1 ctd1), sld1⟩) (cd1 : PySem.W.codeIn K cdd1 "check_alphabet" = true) (kd1 : PySem.W.keepIn K (.ref fd1) = true)
    (ad2 : PySem.W.nsIn K mainGlobals "is_whole" = some (some (.ref fd2)))
    (ld2 : K.lookup fd2 = some ⟨ocd2, odd2, .func (PySem.W.fnOf "is_whole" "is_whole" (defArgs s_is_whole) (defBody s_is_whole) (defScope s_is_whole) .none kVd2 dcd2 pmd2 and2 cdd2 ctd2), sld2⟩) (cd2 : PySem.W.codeIn K cdd2 "is_whole" = true) (kd2 : PySem.W.keepIn K (.ref fd2) = true)
    (ad3 : PySem.W.nsIn K mainGlobals "is_symbol" = some (some (.ref fd3)))
    (ld3 : K.lookup fd3 = some ⟨ocd3, odd3, .func (PySem.W.fnOf "is_symbol" "is_symbol" (defArgs s_is_symbol) (defBody s_is_symbol) (defScope s_is_symbol) .none kVd3 dcd3 pmd3 and3 cdd3 ctd3), sld3⟩) (cd3 : PySem.W.codeIn K cdd3 "is_symbol" = true) (kd3 : PySem.W.keepIn K (.ref fd3) = true)
    (ad4 : PySem.W.nsIn K mainGlobals "is_variable" = some (some (.ref fd4)))
    (ld4 : K.lookup fd4 = some ⟨ocd4, odd4, .func (PySem.W.fnOf "is_variable" "is_variable" (defArgs s_is_variable) (defBody s_is_variable) (defScope s_is_variable) .none kVd4 dcd4 pmd4 and4 cdd4 ctd4), sld4⟩) (cd4 : PySem.W.codeIn K cdd4 "is_variable" = true) (kd4 : PySem.W.keepIn K (.ref fd4) = true)
    (ad5 : PySem.W.nsIn K mainGlobals "is_rule" = some (some (.ref fd5)))
    (ld5 : K.lookup fd5 = some ⟨ocd5, odd5, .func (PySem.W.fnOf "is_rule" "is_rule" (defArgs s_is_rule) (defBody s_is_rule) (defScope s_is_rule) .none kVd5 dcd5 pmd5 and5 cdd5 ctd5), sld5⟩) (cd5 : PySem.W.codeIn K cdd5 "is_rule" = true) (kd5 : PySem.W.keepIn K (.ref fd5) = true)
    (ad6 : PySem.W.nsIn K mainGlobals "_law_digits" = some (some (.ref fd6)))
    (ld6 : K.lookup fd6 = some ⟨ocd6, odd6, .func (PySem.W.fnOf "_law_digits" "_law_digits" (defArgs s__law_digits) (defBody s__law_digits) (defScope s__law_digits) .none kVd6 dcd6 pmd6 and6 cdd6 ctd6), sld6⟩) (cd6 : PySem.W.codeIn K cdd6 "_law_digits" = true) (kd6 : PySem.W.keepIn K (.ref fd6) = true)
    (ad7 : PySem.W.nsIn K mainGlobals "_law_alphabet" = some (some (.ref fd7)))
    (ld7 : K.lookup fd7 = some ⟨ocd7, odd7, .func (PySem.W.fnOf "_law_alphabet" "_law_alphabet" (defArgs s__law_alphabet) (defBody s__law_alphabet) (defScope s__law_alphabet) .none kVd7 dcd7 pmd7 and7 cdd7 ctd7), sld7⟩) (cd7 : PySem.W.codeIn K cdd7 "_law_alphabet" = true) (kd7 : PySem.W.keepIn K (.ref fd7) = true)
    (ad8 : PySem.W.nsIn K mainGlobals "rewritten" = some (some (.ref fd8)))
    (ld8 : K.lookup fd8 = some ⟨ocd8, odd8, .func (PySem.W.fnOf "rewritten" "rewritten" (defArgs s_rewritten) (defBody s_rewritten) (defScope s_rewritten) .none kVd8 dcd8 pmd8 and8 cdd8 ctd8), sld8⟩) (cd8 : PySem.W.codeIn K cdd8 "rewritten" = true) (kd8 : PySem.W.keepIn K (.ref fd8) = true)
    (ad9 : PySem.W.nsIn K mainGlobals "forms_until" = some (some (.ref fd9)))
    (ld9 : K.lookup fd9 = some ⟨ocd9, odd9, .func (PySem.W.fnOf "forms_until" "forms_until" (defArgs s_forms_until) (defBody s_forms_until) (defScope s_forms_until) .none kVd9 dcd9 pmd9 and9 cdd9 ctd9), sld9⟩) (cd9 : PySem.W.codeIn K cdd9 "forms_until" = true) (kd9 : PySem.W.keepIn K (.ref fd9) = true)
    (ad10 : PySem.W.nsIn K mainGlobals "forms_along" = some (some (.ref fd10)))
    (ld10 : K.lookup fd10 = some ⟨ocd10, odd10, .func (PySem.W.fnOf "forms_along" "forms_along" (defArgs s_forms_along) (defBody s_forms_along) (defScope s_forms_along) .none kVd10 dcd10 pmd10 and10 cdd10 ctd10), sld10⟩) (cd10 : PySem.W.codeIn K cdd10 "forms_along" = true) (kd10 : PySem.W.keepIn K (.ref fd10) = true)
    (ad11 : PySem.W.nsIn K mainGlobals "derived" = some (some (.ref fd11)))
    (ld11 : K.lookup fd11 = some ⟨ocd11, odd11, .func (PySem.W.fnOf "derived" "derived" (defArgs s_derived) (defBody s_derived) (defScope s_derived) .none kVd11 dcd11 pmd11 and11 cdd11 ctd11), sld11⟩) (cd11 : PySem.W.codeIn K cdd11 "derived" = true) (kd11 : PySem.W.keepIn K (.ref fd11) = true)
    (ad12 : PySem.W.nsIn K mainGlobals "_law_asked" = some (some (.ref fd12)))
    (ld12 : K.lookup fd12 = some ⟨ocd12, odd12, .func (PySem.W.fnOf "_law_asked" "_law_asked" (defArgs s__law_asked) (defBody s__law_asked) (defScope s__law_asked) .none kVd12 dcd12 pmd12 and12 cdd12 ctd12), sld12⟩) (cd12 : PySem.W.codeIn K cdd12 "_law_asked" = true) (kd12 : PySem.W.keepIn K (.ref fd12) = true)
    (ad13 : PySem.W.nsIn K mainGlobals "_law_whole" = some (some (.ref fd13)))
    (ld13 : K.lookup fd13 = some ⟨ocd13, odd13, .func (PySem.W.fnOf "_law_whole" "_law_whole" (defArgs s__law_whole) (defBody s__law_whole) (defScope s__law_whole) .none kVd13 dcd13 pmd13 and13 cdd13 ctd13), sld13⟩) (cd13 : PySem.W.codeIn K cdd13 "_law_whole" = true) (kd13 : PySem.W.keepIn K (.ref fd13) = true)
    (ad14 : PySem.W.nsIn K mainGlobals "_law_side_alike" = some (some (.ref fd14)))
    (ld14 : K.lookup fd14 = some ⟨ocd14, odd14, .func (PySem.W.fnOf "_law_side_alike" "_law_side_alike" (defArgs s__law_side_alike) (defBody s__law_side_alike) (defScope s__law_side_alike) .none kVd14 dcd14 pmd14 and14 cdd14 ctd14), sld14⟩) (cd14 : PySem.W.codeIn K cdd14 "_law_side_alike" = true) (kd14 : PySem.W.keepIn K (.ref fd14) = true)
    (ad15 : PySem.W.nsIn K mainGlobals "_law_forms_alike" = some (some (.ref fd15)))
    (ld15 : K.lookup fd15 = some ⟨ocd15, odd15, .func (PySem.W.fnOf "_law_forms_alike" "_law_forms_alike" (defArgs s__law_forms_alike) (defBody s__law_forms_alike) (defScope s__law_forms_alike) .none kVd15 dcd15 pmd15 and15 cdd15 ctd15), sld15⟩) (cd15 : PySem.W.codeIn K cdd15 "_law_forms_alike" = true) (kd15 : PySem.W.keepIn K (.ref fd15) = true)
    (ad16 : PySem.W.nsIn K mainGlobals "is_derivation" = some (some (.ref fd16)))
    (ld16 : K.lookup fd16 = some ⟨ocd16, odd16, .func (PySem.W.fnOf "is_derivation" "is_derivation" (defArgs s_is_derivation) (defBody s_is_derivation) (defScope s_is_derivation) .none kVd16 dcd16 pmd16 and16 cdd16 ctd16), sld16⟩) (cd16 : PySem.W.codeIn K cdd16 "is_derivation" = true) (kd16 : PySem.W.keepIn K (.ref fd16) = true)
    (ad17 : PySem.W.nsIn K mainGlobals "_law_beginnings_told" = some (some (.ref fd17)))
    (ld17 : K.lookup fd17 = some ⟨ocd17, odd17, .func (PySem.W.fnOf "_law_beginnings_told" "_law_beginnings_told" (defArgs s__law_beginnings_told) (defBody s__law_beginnings_told) (defScope s__law_beginnings_told) .none kVd17 dcd17 pmd17 and17 cdd17 ctd17), sld17⟩) (cd17 : PySem.W.codeIn K cdd17 "_law_beginnings_told" = true) (kd17 : PySem.W.keepIn K (.ref fd17) = true)
    (ad18 : PySem.W.nsIn K mainGlobals "_law_cell" = some (some (.ref fd18)))
    (ld18 : K.lookup fd18 = some ⟨ocd18, odd18, .func (PySem.W.fnOf "_law_cell" "_law_cell" (defArgs s__law_cell) (defBody s__law_cell) (defScope s__law_cell) .none kVd18 dcd18 pmd18 and18 cdd18 ctd18), sld18⟩) (cd18 : PySem.W.codeIn K cdd18 "_law_cell" = true) (kd18 : PySem.W.keepIn K (.ref fd18) = true)
    (ad19 : PySem.W.nsIn K mainGlobals "_law_rewrite" = some (some (.ref fd19)))
    (ld19 : K.lookup fd19 = some ⟨ocd19, odd19, .func (PySem.W.fnOf "_law_rewrite" "_law_rewrite" (defArgs s__law_rewrite) (defBody s__law_rewrite) (defScope s__law_rewrite) .none kVd19 dcd19 pmd19 and19 cdd19 ctd19), sld19⟩) (cd19 : PySem.W.codeIn K cdd19 "_law_rewrite" = true) (kd19 : PySem.W.keepIn K (.ref fd19) = true)
    (ad20 : PySem.W.nsIn K mainGlobals "_law_follow" = some (some (.ref fd20)))
    (ld20 : K.lookup fd20 = some ⟨ocd20, odd20, .func (PySem.W.fnOf "_law_follow" "_law_follow" (defArgs s__law_follow) (defBody s__law_follow) (defScope s__law_follow) .none kVd20 dcd20 pmd20 and20 cdd20 ctd20), sld20⟩) (cd20 : PySem.W.codeIn K cdd20 "_law_follow" = true) (kd20 : PySem.W.keepIn K (.ref fd20) = true)
    (ad21 : PySem.W.nsIn K mainGlobals "_law_changed_row" = some (some (.ref fd21)))
    (ld21 : K.lookup fd21 = some ⟨ocd21, odd21, .func (PySem.W.fnOf "_law_changed_row" "_law_changed_row" (defArgs s__law_changed_row) (defBody s__law_changed_row) (defScope s__law_changed_row) .none kVd21 dcd21 pmd21 and21 cdd21 ctd21), sld21⟩) (cd21 : PySem.W.codeIn K cdd21 "_law_changed_row" = true) (kd21 : PySem.W.keepIn K (.ref fd21) = true)
    (ad22 : PySem.W.nsIn K mainGlobals "_law_choices" = some (some (.ref fd22)))
    (ld22 : K.lookup fd22 = some ⟨ocd22, odd22, .func (PySem.W.fnOf "_law_choices" "_law_choices" (defArgs s__law_choices) (defBody s__law_choices) (defScope s__law_choices) .none kVd22 dcd22 pmd22 and22 cdd22 ctd22), sld22⟩) (cd22 : PySem.W.codeIn K cdd22 "_law_choices" = true) (kd22 : PySem.W.keepIn K (.ref fd22) = true)
    (ad23 : PySem.W.nsIn K mainGlobals "_law_spots" = some (some (.ref fd23)))
    (ld23 : K.lookup fd23 = some ⟨ocd23, odd23, .func (PySem.W.fnOf "_law_spots" "_law_spots" (defArgs s__law_spots) (defBody s__law_spots) (defScope s__law_spots) .none kVd23 dcd23 pmd23 and23 cdd23 ctd23), sld23⟩) (cd23 : PySem.W.codeIn K cdd23 "_law_spots" = true) (kd23 : PySem.W.keepIn K (.ref fd23) = true)
    (ad24 : PySem.W.nsIn K mainGlobals "_law_closes" = some (some (.ref fd24)))
    (ld24 : K.lookup fd24 = some ⟨ocd24, odd24, .func (PySem.W.fnOf "_law_closes" "_law_closes" (defArgs s__law_closes) (defBody s__law_closes) (defScope s__law_closes) .none kVd24 dcd24 pmd24 and24 cdd24 ctd24), sld24⟩) (cd24 : PySem.W.codeIn K cdd24 "_law_closes" = true) (kd24 : PySem.W.keepIn K (.ref fd24) = true)
    (ad25 : PySem.W.nsIn K mainGlobals "_law_drawn_row" = some (some (.ref fd25)))
    (ld25 : K.lookup fd25 = some ⟨ocd25, odd25, .func (PySem.W.fnOf "_law_drawn_row" "_law_drawn_row" (defArgs s__law_drawn_row) (defBody s__law_drawn_row) (defScope s__law_drawn_row) .none kVd25 dcd25 pmd25 and25 cdd25 ctd25), sld25⟩) (cd25 : PySem.W.codeIn K cdd25 "_law_drawn_row" = true) (kd25 : PySem.W.keepIn K (.ref fd25) = true)
    (ad26 : PySem.W.nsIn K mainGlobals "_law_form_told" = some (some (.ref fd26)))
    (ld26 : K.lookup fd26 = some ⟨ocd26, odd26, .func (PySem.W.fnOf "_law_form_told" "_law_form_told" (defArgs s__law_form_told) (defBody s__law_form_told) (defScope s__law_form_told) .none kVd26 dcd26 pmd26 and26 cdd26 ctd26), sld26⟩) (cd26 : PySem.W.codeIn K cdd26 "_law_form_told" = true) (kd26 : PySem.W.keepIn K (.ref fd26) = true)
    (ad27 : PySem.W.nsIn K mainGlobals "_law_handed" = some (some (.ref fd27)))
    (ld27 : K.lookup fd27 = some ⟨ocd27, odd27, .func (PySem.W.fnOf "_law_handed" "_law_handed" (defArgs s__law_handed) (defBody s__law_handed) (defScope s__law_handed) .none kVd27 dcd27 pmd27 and27 cdd27 ctd27), sld27⟩) (cd27 : PySem.W.codeIn K cdd27 "_law_handed" = true) (kd27 : PySem.W.keepIn K (.ref fd27) = true)
    (ad28 : PySem.W.nsIn K mainGlobals "_law_row_told" = some (some (.ref fd28)))
    (ld28 : K.lookup fd28 = some ⟨ocd28, odd28, .func (PySem.W.fnOf "_law_row_told" "_law_row_told" (defArgs s__law_row_told) (defBody s__law_row_told) (defScope s__law_row_told) .none kVd28 dcd28 pmd28 and28 cdd28 ctd28), sld28⟩) (cd28 : PySem.W.codeIn K cdd28 "_law_row_told" = true) (kd28 : PySem.W.keepIn K (.ref fd28) = true)
    (ad29 : PySem.W.nsIn K mainGlobals "_law_closing_rules" = some (some (.ref fd29)))
    (ld29 : K.lookup fd29 = some ⟨ocd29, odd29, .func (PySem.W.fnOf "_law_closing_rules" "_law_closing_rules" (defArgs s__law_closing_rules) (defBody s__law_closing_rules) (defScope s__law_closing_rules) .none kVd29 dcd29 pmd29 and29 cdd29 ctd29), sld29⟩) (cd29 : PySem.W.codeIn K cdd29 "_law_closing_rules" = true) (kd29 : PySem.W.keepIn K (.ref fd29) = true)
    (ad30 : PySem.W.nsIn K mainGlobals "_law_symbol" = some (some (.ref fd30)))
    (ld30 : K.lookup fd30 = some ⟨ocd30, odd30, .func (PySem.W.fnOf "_law_symbol" "_law_symbol" (defArgs s__law_symbol) (defBody s__law_symbol) (defScope s__law_symbol) .none kVd30 dcd30 pmd30 and30 cdd30 ctd30), sld30⟩) (cd30 : PySem.W.codeIn K cdd30 "_law_symbol" = true) (kd30 : PySem.W.keepIn K (.ref fd30) = true)
    (ad31 : PySem.W.nsIn K mainGlobals "_law_grown_rules" = some (some (.ref fd31)))
    (ld31 : K.lookup fd31 = some ⟨ocd31, odd31, .func (PySem.W.fnOf "_law_grown_rules" "_law_grown_rules" (defArgs s__law_grown_rules) (defBody s__law_grown_rules) (defScope s__law_grown_rules) .none kVd31 dcd31 pmd31 and31 cdd31 ctd31), sld31⟩) (cd31 : PySem.W.codeIn K cdd31 "_law_grown_rules" = true) (kd31 : PySem.W.keepIn K (.ref fd31) = true)
    (ad32 : PySem.W.nsIn K mainGlobals "_law_rules" = some (some (.ref fd32)))
    (ld32 : K.lookup fd32 = some ⟨ocd32, odd32, .func (PySem.W.fnOf "_law_rules" "_law_rules" (defArgs s__law_rules) (defBody s__law_rules) (defScope s__law_rules) .none kVd32 dcd32 pmd32 and32 cdd32 ctd32), sld32⟩) (cd32 : PySem.W.codeIn K cdd32 "_law_rules" = true) (kd32 : PySem.W.keepIn K (.ref fd32) = true)
    (ad33 : PySem.W.nsIn K mainGlobals "_law_texts_told" = some (some (.ref fd33)))
    (ld33 : K.lookup fd33 = some ⟨ocd33, odd33, .func (PySem.W.fnOf "_law_texts_told" "_law_texts_told" (defArgs s__law_texts_told) (defBody s__law_texts_told) (defScope s__law_texts_told) .none kVd33 dcd33 pmd33 and33 cdd33 ctd33), sld33⟩) (cd33 : PySem.W.codeIn K cdd33 "_law_texts_told" = true) (kd33 : PySem.W.keepIn K (.ref fd33) = true)
    (ad34 : PySem.W.nsIn K mainGlobals "law" = some (some (.ref fd34)))
    (ld34 : K.lookup fd34 = some ⟨ocd34, odd34, .func (PySem.W.fnOf "law" "law" (defArgs s_law) (defBody s_law) (defScope s_law) .none kVd34 dcd34 pmd34 and34 cdd34 ctd34), sld34⟩) (cd34 : PySem.W.codeIn K cdd34 "law" = true) (kd34 : PySem.W.keepIn K (.ref fd34) = true)
    (z_ValueError : PySem.W.nsIn K mainGlobals "ValueError" = some none)
    (z_bool : PySem.W.nsIn K mainGlobals "bool" = some none)
    (z_enumerate : PySem.W.nsIn K mainGlobals "enumerate" = some none)
    (z_int : PySem.W.nsIn K mainGlobals "int" = some none)
    (z_isinstance : PySem.W.nsIn K mainGlobals "isinstance" = some none)
    (z_len : PySem.W.nsIn K mainGlobals "len" = some none)
    (z_list : PySem.W.nsIn K mainGlobals "list" = some none)
    (z_max : PySem.W.nsIn K mainGlobals "max" = some none)
    (z_min : PySem.W.nsIn K mainGlobals "min" = some none)
    (z_range : PySem.W.nsIn K mainGlobals "range" = some none)
    (z_str : PySem.W.nsIn K mainGlobals "str" = some none)
    (z_tuple : PySem.W.nsIn K mainGlobals "tuple" = some none)
    (z_LETTERS : PySem.W.nsIn K mainGlobals "LETTERS" = some (some (Value.str "abcdefghijklmnopqrstuvwxyz" tk_LETTERS))) :
    ∃ fd : FuncData, (∀ (s : Shared) (v : Value), BindsTo s fd ⟨[v], []⟩ [("script", v)]) ∧ ∀ base : Heap, K.In base → base.Ns mainGlobals mg → FnOk l.prog w K mg base CX0 7 fa fd ["script"] (spTrue K) := by
  have e := hfa.symm.trans (PySem.W.mg_of X G ad34)
  cases e
  have T : Txt K mg (⟨C0, X0, B0, B1, B2, B3, B4⟩ : Ad) := ⟨PySem.W.mg_none_of X G z_ValueError, PySem.W.mg_none_of X G z_bool, PySem.W.mg_none_of X G z_enumerate, PySem.W.mg_none_of X G z_int, PySem.W.mg_none_of X G z_isinstance, PySem.W.mg_none_of X G z_len, PySem.W.mg_none_of X G z_list, PySem.W.mg_none_of X G z_max, PySem.W.mg_none_of X G z_min, PySem.W.mg_none_of X G z_range, PySem.W.mg_none_of X G z_str, PySem.W.mg_none_of X G z_tuple, ⟨_, PySem.W.mg_of X G z_LETTERS, ⟨_, rfl⟩⟩, ⟨pgC0, hdC0, poC0, saC0⟩, nC0_alphabet, nC0_variables, nC0_rules, PySem.W.mg_of X G aX0, exm_same eCX0 iCX0 tCX0 sCX0, ⟨⟨gaX0, ggX0, eCX0, hCX0⟩, iCX0, atX0, gtX0, tkX0, mrX0⟩, ⟨gaX0, ggX0, eCX0, hCX0⟩, nX0_index, PySem.W.mg_of X G aB0, PySem.W.mg_of X G aB1, PySem.W.mg_of X G aB2, PySem.W.mg_of X G aB3, PySem.W.mg_of X G aB4, kit_sub neBadRow_qBadForm iCB0 tCB0 uBadRow_qBadForm, kit_same, kit_sub neBadRow_qBadRule iCB1 tCB1 uBadRow_qBadRule, kit_sub neBadRow_qBadRun iCB2 tCB2 uBadRow_qBadRun, kit_sub neBadRow_qNotOfKind iCB4 tCB4 uBadRow_qNotOfKind, kit_ty (by decide +kernel) uBadRow_qValueError, exm_sub eCB3 iCB3 tCB3 uBadRow_xLeashError⟩
  refine ⟨PySem.W.fnOf "law" "law" (defArgs s_law) (defBody s_law) (defScope s_law) .none kVd34 dcd34 pmd34 and34 cdd34 ctd34, fun s v => .of_eq rfl, fun base _ _ => ?_⟩
  have Fx0 := fun_mk (st := s_x_BadRow) lx0 cx0 kx0
  have x_BadRow := ok_x_BadRow (P := l.prog) (w := w) (base := base) T ⟨⟨_, _, _, _, _, _, _, _, _, _, _, _, _, _, _, LX0, rvX0⟩, saX0, eCX0, tCX0, kCX0⟩ ax0 tx0 Fx0 (Fx0.binds (ps := ["self", "index"]) fun _ _ _ _ _ _ us hl => match us, hl with | [_, _], _ => rfl)
  have Fd0 := fun_mk (st := s_is_alphabet) ld0 cd0 kd0
  have c_is_alphabet := ok_is_alphabet (P := l.prog) (w := w) (base := base) (A := (⟨C0, X0, B0, B1, B2, B3, B4⟩ : Ad)) T  Fd0 (PySem.W.mg_of X G ad0) (Fd0.binds (ps := ["value"]) fun _ _ _ _ _ _ us hl => match us, hl with | [_], _ => rfl)
  have Fd1 := fun_mk (st := s_check_alphabet) ld1 cd1 kd1
  have c_check_alphabet := ok_check_alphabet (P := l.prog) (w := w) (base := base) (A := (⟨C0, X0, B0, B1, B2, B3, B4⟩ : Ad)) T c_is_alphabet Fd1 (PySem.W.mg_of X G ad1) (Fd1.binds (ps := ["alphabet"]) fun _ _ _ _ _ _ us hl => match us, hl with | [_], _ => rfl)
  have Fd2 := fun_mk (st := s_is_whole) ld2 cd2 kd2
  have c_is_whole := ok_is_whole (P := l.prog) (w := w) (base := base) (A := (⟨C0, X0, B0, B1, B2, B3, B4⟩ : Ad)) T  Fd2 (PySem.W.mg_of X G ad2) (Fd2.binds (ps := ["value"]) fun _ _ _ _ _ _ us hl => match us, hl with | [_], _ => rfl)
  have Fd3 := fun_mk (st := s_is_symbol) ld3 cd3 kd3
  have c_is_symbol := ok_is_symbol (P := l.prog) (w := w) (base := base) (A := (⟨C0, X0, B0, B1, B2, B3, B4⟩ : Ad)) T c_is_whole Fd3 (PySem.W.mg_of X G ad3) (Fd3.binds (ps := ["symbol", "alphabet", "variables"]) fun _ _ _ _ _ _ us hl => match us, hl with | [_, _, _], _ => rfl)
  have Fd4 := fun_mk (st := s_is_variable) ld4 cd4 kd4
  have c_is_variable := ok_is_variable (P := l.prog) (w := w) (base := base) (A := (⟨C0, X0, B0, B1, B2, B3, B4⟩ : Ad)) T  Fd4 (PySem.W.mg_of X G ad4) (Fd4.binds (ps := ["symbol"]) fun _ _ _ _ _ _ us hl => match us, hl with | [_], _ => rfl)
  have Fd5 := fun_mk (st := s_is_rule) ld5 cd5 kd5
  have c_is_rule := ok_is_rule (P := l.prog) (w := w) (base := base) (A := (⟨C0, X0, B0, B1, B2, B3, B4⟩ : Ad)) T c_is_symbol c_is_variable Fd5 (PySem.W.mg_of X G ad5) (Fd5.binds (ps := ["left", "right", "alphabet", "variables"]) fun _ _ _ _ _ _ us hl => match us, hl with | [_, _, _, _], _ => rfl)
  have Fi0 := fun_mk (st := s_Grammar_init) li0 ci0 ki0
  have c_Grammar := ok_Grammar_init (P := l.prog) (w := w) (base := base) (A := (⟨C0, X0, B0, B1, B2, B3, B4⟩ : Ad)) T c_check_alphabet c_is_rule ⟨mkC0, ai0, ii0, kcC0⟩ Fi0 (PySem.W.mg_of X G aC0) (Fi0.binds (ps := ["self", "alphabet", "variables", "rules"]) fun _ _ _ _ _ _ us hl => match us, hl with | [_, _, _, _], _ => rfl)
  have Fd6 := fun_mk (st := s__law_digits) ld6 cd6 kd6
  have c__law_digits := ok__law_digits (P := l.prog) (w := w) (base := base) (A := (⟨C0, X0, B0, B1, B2, B3, B4⟩ : Ad)) T  Fd6 (PySem.W.mg_of X G ad6) (Fd6.binds (ps := ["cell", "sizes"]) fun _ _ _ _ _ _ us hl => match us, hl with | [_, _], _ => rfl)
  have Fd7 := fun_mk (st := s__law_alphabet) ld7 cd7 kd7
  have c__law_alphabet := ok__law_alphabet (P := l.prog) (w := w) (base := base) (A := (⟨C0, X0, B0, B1, B2, B3, B4⟩ : Ad)) T c__law_digits Fd7 (PySem.W.mg_of X G ad7) (Fd7.binds (ps := ["cell"]) fun _ _ _ _ _ _ us hl => match us, hl with | [_], _ => rfl)
  have Fd8 := fun_mk (st := s_rewritten) ld8 cd8 kd8
  have c_rewritten := ok_rewritten (P := l.prog) (w := w) (base := base) (A := (⟨C0, X0, B0, B1, B2, B3, B4⟩ : Ad)) T  Fd8 (PySem.W.mg_of X G ad8) (Fd8.binds (ps := ["grammar", "form", "number", "place"]) fun _ _ _ _ _ _ us hl => match us, hl with | [_, _, _, _], _ => rfl)
  have Fd9 := fun_mk (st := s_forms_until) ld9 cd9 kd9
  have c_forms_until := ok_forms_until (P := l.prog) (w := w) (base := base) (A := (⟨C0, X0, B0, B1, B2, B3, B4⟩ : Ad)) T c_rewritten Fd9 (PySem.W.mg_of X G ad9) (Fd9.binds (ps := ["grammar", "row"]) fun _ _ _ _ _ _ us hl => match us, hl with | [_, _], _ => rfl)
  have Fd10 := fun_mk (st := s_forms_along) ld10 cd10 kd10
  have c_forms_along := ok_forms_along (P := l.prog) (w := w) (base := base) (A := (⟨C0, X0, B0, B1, B2, B3, B4⟩ : Ad)) T c_forms_until x_BadRow Fd10 (PySem.W.mg_of X G ad10) (Fd10.binds (ps := ["grammar", "row"]) fun _ _ _ _ _ _ us hl => match us, hl with | [_, _], _ => rfl)
  have Fd11 := fun_mk (st := s_derived) ld11 cd11 kd11
  have c_derived := ok_derived (P := l.prog) (w := w) (base := base) (A := (⟨C0, X0, B0, B1, B2, B3, B4⟩ : Ad)) T c_forms_along Fd11 (PySem.W.mg_of X G ad11) (Fd11.binds (ps := ["grammar", "row"]) fun _ _ _ _ _ _ us hl => match us, hl with | [_, _], _ => rfl)
  have Fd12 := fun_mk (st := s__law_asked) ld12 cd12 kd12
  have c__law_asked := ok__law_asked (P := l.prog) (w := w) (base := base) (A := (⟨C0, X0, B0, B1, B2, B3, B4⟩ : Ad)) T c_derived c_forms_along Fd12 (PySem.W.mg_of X G ad12) (Fd12.binds (ps := ["which", "grammar", "handed"]) fun _ _ _ _ _ _ us hl => match us, hl with | [_, _, _], _ => rfl)
  have Fd13 := fun_mk (st := s__law_whole) ld13 cd13 kd13
  have c__law_whole := ok__law_whole (P := l.prog) (w := w) (base := base) (A := (⟨C0, X0, B0, B1, B2, B3, B4⟩ : Ad)) T  Fd13 (PySem.W.mg_of X G ad13) (Fd13.binds (ps := ["value"]) fun _ _ _ _ _ _ us hl => match us, hl with | [_], _ => rfl)
  have Fd14 := fun_mk (st := s__law_side_alike) ld14 cd14 kd14
  have c__law_side_alike := ok__law_side_alike (P := l.prog) (w := w) (base := base) (A := (⟨C0, X0, B0, B1, B2, B3, B4⟩ : Ad)) T c__law_whole Fd14 (PySem.W.mg_of X G ad14) (Fd14.binds (ps := ["told", "side"]) fun _ _ _ _ _ _ us hl => match us, hl with | [_, _], _ => rfl)
  have Fd15 := fun_mk (st := s__law_forms_alike) ld15 cd15 kd15
  have c__law_forms_alike := ok__law_forms_alike (P := l.prog) (w := w) (base := base) (A := (⟨C0, X0, B0, B1, B2, B3, B4⟩ : Ad)) T c__law_side_alike Fd15 (PySem.W.mg_of X G ad15) (Fd15.binds (ps := ["told", "forms"]) fun _ _ _ _ _ _ us hl => match us, hl with | [_, _], _ => rfl)
  have Fd16 := fun_mk (st := s_is_derivation) ld16 cd16 kd16
  have c_is_derivation := ok_is_derivation (P := l.prog) (w := w) (base := base) (A := (⟨C0, X0, B0, B1, B2, B3, B4⟩ : Ad)) T c_forms_until Fd16 (PySem.W.mg_of X G ad16) (Fd16.binds (ps := ["grammar", "text", "row"]) fun _ _ _ _ _ _ us hl => match us, hl with | [_, _, _], _ => rfl)
  have Fd17 := fun_mk (st := s__law_beginnings_told) ld17 cd17 kd17
  have c__law_beginnings_told := ok__law_beginnings_told (P := l.prog) (w := w) (base := base) (A := (⟨C0, X0, B0, B1, B2, B3, B4⟩ : Ad)) T c__law_asked c__law_forms_alike c_is_derivation Fd17 (PySem.W.mg_of X G ad17) (Fd17.binds (ps := ["grammar", "pairs", "whole", "goal"]) fun _ _ _ _ _ _ us hl => match us, hl with | [_, _, _, _], _ => rfl)
  have Fd18 := fun_mk (st := s__law_cell) ld18 cd18 kd18
  have c__law_cell := ok__law_cell (P := l.prog) (w := w) (base := base) (A := (⟨C0, X0, B0, B1, B2, B3, B4⟩ : Ad)) T  Fd18 (PySem.W.mg_of X G ad18) (Fd18.binds (ps := ["script", "k"]) fun _ _ _ _ _ _ us hl => match us, hl with | [_, _], _ => rfl)
  have Fd19 := fun_mk (st := s__law_rewrite) ld19 cd19 kd19
  have c__law_rewrite := ok__law_rewrite (P := l.prog) (w := w) (base := base) (A := (⟨C0, X0, B0, B1, B2, B3, B4⟩ : Ad)) T  Fd19 (PySem.W.mg_of X G ad19) (Fd19.binds (ps := ["rules", "form", "number", "place"]) fun _ _ _ _ _ _ us hl => match us, hl with | [_, _, _, _], _ => rfl)
  have Fd20 := fun_mk (st := s__law_follow) ld20 cd20 kd20
  have c__law_follow := ok__law_follow (P := l.prog) (w := w) (base := base) (A := (⟨C0, X0, B0, B1, B2, B3, B4⟩ : Ad)) T c__law_rewrite Fd20 (PySem.W.mg_of X G ad20) (Fd20.binds (ps := ["rules", "pairs"]) fun _ _ _ _ _ _ us hl => match us, hl with | [_, _], _ => rfl)
  have Fd21 := fun_mk (st := s__law_changed_row) ld21 cd21 kd21
  have c__law_changed_row := ok__law_changed_row (P := l.prog) (w := w) (base := base) (A := (⟨C0, X0, B0, B1, B2, B3, B4⟩ : Ad)) T c__law_follow Fd21 (PySem.W.mg_of X G ad21) (Fd21.binds (ps := ["rules", "pairs", "row"]) fun _ _ _ _ _ _ us hl => match us, hl with | [_, _, _], _ => rfl)
  have Fd22 := fun_mk (st := s__law_choices) ld22 cd22 kd22
  have c__law_choices := ok__law_choices (P := l.prog) (w := w) (base := base) (A := (⟨C0, X0, B0, B1, B2, B3, B4⟩ : Ad)) T c__law_rewrite Fd22 (PySem.W.mg_of X G ad22) (Fd22.binds (ps := ["rules", "form"]) fun _ _ _ _ _ _ us hl => match us, hl with | [_, _], _ => rfl)
  have Fd23 := fun_mk (st := s__law_spots) ld23 cd23 kd23
  have c__law_spots := ok__law_spots (P := l.prog) (w := w) (base := base) (A := (⟨C0, X0, B0, B1, B2, B3, B4⟩ : Ad)) T  Fd23 (PySem.W.mg_of X G ad23) (Fd23.binds (ps := ["form"]) fun _ _ _ _ _ _ us hl => match us, hl with | [_], _ => rfl)
  have Fd24 := fun_mk (st := s__law_closes) ld24 cd24 kd24
  have c__law_closes := ok__law_closes (P := l.prog) (w := w) (base := base) (A := (⟨C0, X0, B0, B1, B2, B3, B4⟩ : Ad)) T c__law_spots Fd24 (PySem.W.mg_of X G ad24) (Fd24.binds (ps := ["rule"]) fun _ _ _ _ _ _ us hl => match us, hl with | [_], _ => rfl)
  have Fd25 := fun_mk (st := s__law_drawn_row) ld25 cd25 kd25
  have c__law_drawn_row := ok__law_drawn_row (P := l.prog) (w := w) (base := base) (A := (⟨C0, X0, B0, B1, B2, B3, B4⟩ : Ad)) T c__law_cell c__law_choices c__law_closes c__law_digits c__law_rewrite c__law_spots Fd25 (PySem.W.mg_of X G ad25) (Fd25.binds (ps := ["script", "rules"]) fun _ _ _ _ _ _ us hl => match us, hl with | [_, _], _ => rfl)
  have Fd26 := fun_mk (st := s__law_form_told) ld26 cd26 kd26
  have c__law_form_told := ok__law_form_told (P := l.prog) (w := w) (base := base) (A := (⟨C0, X0, B0, B1, B2, B3, B4⟩ : Ad)) T c__law_rewrite c__law_side_alike c_rewritten Fd26 (PySem.W.mg_of X G ad26) (Fd26.binds (ps := ["grammar", "rules", "form", "digit"]) fun _ _ _ _ _ _ us hl => match us, hl with | [_, _, _, _], _ => rfl)
  have Fd27 := fun_mk (st := s__law_handed) ld27 cd27 kd27
  have c__law_handed := ok__law_handed (P := l.prog) (w := w) (base := base) (A := (⟨C0, X0, B0, B1, B2, B3, B4⟩ : Ad)) T  Fd27 (PySem.W.mg_of X G ad27) (Fd27.binds (ps := ["pairs", "shape"]) fun _ _ _ _ _ _ us hl => match us, hl with | [_, _], _ => rfl)
  have Fd28 := fun_mk (st := s__law_row_told) ld28 cd28 kd28
  have c__law_row_told := ok__law_row_told (P := l.prog) (w := w) (base := base) (A := (⟨C0, X0, B0, B1, B2, B3, B4⟩ : Ad)) T c__law_asked c__law_follow c__law_forms_alike c__law_handed c__law_side_alike c__law_whole Fd28 (PySem.W.mg_of X G ad28) (Fd28.binds (ps := ["grammar", "rules", "pairs", "shape"]) fun _ _ _ _ _ _ us hl => match us, hl with | [_, _, _, _], _ => rfl)
  have Fd29 := fun_mk (st := s__law_closing_rules) ld29 cd29 kd29
  have c__law_closing_rules := ok__law_closing_rules (P := l.prog) (w := w) (base := base) (A := (⟨C0, X0, B0, B1, B2, B3, B4⟩ : Ad)) T c__law_digits Fd29 (PySem.W.mg_of X G ad29) (Fd29.binds (ps := ["cell", "alphabet", "variables", "lost"]) fun _ _ _ _ _ _ us hl => match us, hl with | [_, _, _, _], _ => rfl)
  have Fd30 := fun_mk (st := s__law_symbol) ld30 cd30 kd30
  have c__law_symbol := ok__law_symbol (P := l.prog) (w := w) (base := base) (A := (⟨C0, X0, B0, B1, B2, B3, B4⟩ : Ad)) T  Fd30 (PySem.W.mg_of X G ad30) (Fd30.binds (ps := ["digit", "alphabet", "variables"]) fun _ _ _ _ _ _ us hl => match us, hl with | [_, _, _], _ => rfl)
  have Fd31 := fun_mk (st := s__law_grown_rules) ld31 cd31 kd31
  have c__law_grown_rules := ok__law_grown_rules (P := l.prog) (w := w) (base := base) (A := (⟨C0, X0, B0, B1, B2, B3, B4⟩ : Ad)) T c__law_cell c__law_digits c__law_spots c__law_symbol Fd31 (PySem.W.mg_of X G ad31) (Fd31.binds (ps := ["script", "alphabet", "variables", "many"]) fun _ _ _ _ _ _ us hl => match us, hl with | [_, _, _, _], _ => rfl)
  have Fd32 := fun_mk (st := s__law_rules) ld32 cd32 kd32
  have c__law_rules := ok__law_rules (P := l.prog) (w := w) (base := base) (A := (⟨C0, X0, B0, B1, B2, B3, B4⟩ : Ad)) T c__law_cell c__law_closing_rules c__law_digits c__law_grown_rules Fd32 (PySem.W.mg_of X G ad32) (Fd32.binds (ps := ["script", "alphabet", "variables"]) fun _ _ _ _ _ _ us hl => match us, hl with | [_, _, _], _ => rfl)
  have Fd33 := fun_mk (st := s__law_texts_told) ld33 cd33 kd33
  have c__law_texts_told := ok__law_texts_told (P := l.prog) (w := w) (base := base) (A := (⟨C0, X0, B0, B1, B2, B3, B4⟩ : Ad)) T c__law_follow c__law_handed c_is_derivation Fd33 (PySem.W.mg_of X G ad33) (Fd33.binds (ps := ["grammar", "rules", "pairs", "whole", "first", "shape"]) fun _ _ _ _ _ _ us hl => match us, hl with | [_, _, _, _, _, _], _ => rfl)
  have Fd34 := fun_mk (st := s_law) ld34 cd34 kd34
  exact fnOk_true law_run (⟨C0, X0, B0, B1, B2, B3, B4⟩ : Ad) (okF_law (P := l.prog) (w := w) (base := base) (A := (⟨C0, X0, B0, B1, B2, B3, B4⟩ : Ad)) T c_Grammar c__law_alphabet c__law_beginnings_told c__law_cell c__law_changed_row c__law_digits c__law_drawn_row c__law_follow c__law_form_told c__law_row_told c__law_rules c__law_symbol c__law_texts_told Fd34)
theorem walk {l : PySem.W.OpenLaw} {q : Program} {loose : List Str} {XP : (Str → Option Value) → Heap → Prop} {YP : World → Heap → Prop} {d : DefRec} {K : Params → PySem.W.Frag} (hn : l.most = some 63) (hdf : d.params.defaults = [])
    (hY : ∀ (w : World) (h : Heap), YP w h → (K w.params).In h)
    (F : ∀ (w : World) (mg : Str → Option Value) (fa : Addr) (h : Heap), (K w.params).In h → h.Ns mainGlobals mg → mg d.name = some (.ref fa) →
      ∃ fd : FuncData, (∀ (s : Shared) (u : Value), BindsTo s fd ⟨[u], []⟩ [("script", u)]) ∧ ∀ base : Heap, (K w.params).In base → base.Ns mainGlobals mg → FnOk l.prog w (K w.params) mg base CX0 7 fa fd ["script"] (spTrue (K w.params))) :
    PySem.W.WalkO q loose XP YP l.row.toRowW d [] (fun f vs => PySem.call f vs) :=
  L2.walk_of (n := 63) (k := 7) (x := "script") (CX := fun _ => CX0) (sp := fun w => spTrue (K w.params)) hn (by decide) hdf ⟨rfl, by decide, by decide⟩ hY F (fun _ _ a ns hl _ hS => ⟨a, ns, rfl, hl, hS, fun _ => rfl⟩) fun _ _ _ _ _ z => z
end K40
open PySem PySem.W PyProof.Rows
set_option maxRecDepth 100000 in
set_option maxHeartbeats 0 in
theorem PySem.Challenge.cw_fourleashes_k40_derivations_holds : PySem.Challenge.rw_fourleashes_k40_derivations.Holds := by
  w_on; o_law; k_head; (case hw => w_witness2)
  k_fill
  refine K40.walk (l := PySem.Challenge.rw_fourleashes_k40_derivations) rfl rfl (fun w h Y => PySem.W.kIn_of Y) ?F
  case F =>
    intro w mg fa h KX G hmg
    refine' K40.all_mk KX G hmg ?aC0 ?ai0 ?ii0 ?li0 ?ci0 ?ki0 ?pgC0 ?hdC0 ?poC0 ?saC0 ?mkC0 ?kcC0 ?nC0_alphabet ?nC0_variables ?nC0_rules ?aX0 ?LX0 ?rvX0 ?ax0 ?tx0 ?lx0 ?cx0 ?kx0 ?saX0 ?gaX0 ?ggX0 ?kCX0 ?eCX0 ?tCX0 ?hCX0 ?iCX0 ?sCX0 ?nX0_index ?aB0 ?eCB0 ?iCB0 ?tCB0 ?aB1 ?eCB1 ?iCB1 ?tCB1 ?aB2 ?eCB2 ?iCB2 ?tCB2 ?aB3 ?eCB3 ?iCB3 ?tCB3 ?aB4 ?eCB4 ?iCB4 ?tCB4 ?atX0 ?gtX0 ?tkX0 ?mrX0 ?uBadRow_qBadForm ?neBadRow_qBadForm ?uBadRow_qBadRule ?neBadRow_qBadRule ?uBadRow_qBadRun ?neBadRow_qBadRun ?uBadRow_qNotOfKind ?neBadRow_qNotOfKind ?uBadRow_qValueError ?uBadRow_xLeashError ?ad0 ?ld0 ?cd0 ?kd0 ?ad1 ?ld1 ?cd1 ?kd1 ?ad2 ?ld2 ?cd2 ?kd2 ?ad3 ?ld3 ?cd3 ?kd3 ?ad4 ?ld4 ?cd4 ?kd4 ?ad5 ?ld5 ?cd5 ?kd5 ?ad6 ?ld6 ?cd6 ?kd6 ?ad7 ?ld7 ?cd7 ?kd7 ?ad8 ?ld8 ?cd8 ?kd8 ?ad9 ?ld9 ?cd9 ?kd9 ?ad10 ?ld10 ?cd10 ?kd10 ?ad11 ?ld11 ?cd11 ?kd11 ?ad12 ?ld12 ?cd12 ?kd12 ?ad13 ?ld13 ?cd13 ?kd13 ?ad14 ?ld14 ?cd14 ?kd14 ?ad15 ?ld15 ?cd15 ?kd15 ?ad16 ?ld16 ?cd16 ?kd16 ?ad17 ?ld17 ?cd17 ?kd17 ?ad18 ?ld18 ?cd18 ?kd18 ?ad19 ?ld19 ?cd19 ?kd19 ?ad20 ?ld20 ?cd20 ?kd20 ?ad21 ?ld21 ?cd21 ?kd21 ?ad22 ?ld22 ?cd22 ?kd22 ?ad23 ?ld23 ?cd23 ?kd23 ?ad24 ?ld24 ?cd24 ?kd24 ?ad25 ?ld25 ?cd25 ?kd25 ?ad26 ?ld26 ?cd26 ?kd26 ?ad27 ?ld27 ?cd27 ?kd27 ?ad28 ?ld28 ?cd28 ?kd28 ?ad29 ?ld29 ?cd29 ?kd29 ?ad30 ?ld30 ?cd30 ?kd30 ?ad31 ?ld31 ?cd31 ?kd31 ?ad32 ?ld32 ?cd32 ?kd32 ?ad33 ?ld33 ?cd33 ?kd33 ?ad34 ?ld34 ?cd34 ?kd34 ?z_ValueError ?z_bool ?z_enumerate ?z_int ?z_isinstance ?z_len ?z_list ?z_max ?z_min ?z_range ?z_str ?z_tuple ?z_LETTERS
    (case aC0 => first | k_is | (decide +kernel) | rfl | decide)
    (case ai0 => first | k_is | (decide +kernel) | rfl | decide)
    (case ii0 => first | k_is | (decide +kernel) | rfl | decide)
    (case li0 => first | k_is | (decide +kernel) | rfl | decide)
    (case ci0 => first | k_is | (decide +kernel) | rfl | decide)
    (case ki0 => first | k_is | (decide +kernel) | rfl | decide)
    (case pgC0 => first | k_is | (decide +kernel) | rfl | decide)
    (case hdC0 => first | k_is | (decide +kernel) | rfl | decide)
    (case poC0 => first | k_is | (decide +kernel) | rfl | decide)
    (case saC0 => first | k_is | (decide +kernel) | rfl | decide)
    (case mkC0 => first | k_is | (decide +kernel) | rfl | decide)
    (case kcC0 => first | k_is | (decide +kernel) | rfl | decide)
    (case nC0_alphabet => first | k_is | (decide +kernel) | rfl | decide)
    (case nC0_variables => first | k_is | (decide +kernel) | rfl | decide)
    (case nC0_rules => first | k_is | (decide +kernel) | rfl | decide)
    (case aX0 => first | k_is | (decide +kernel) | rfl | decide)
    (case LX0 => first | k_is | (decide +kernel) | rfl | decide)
    (case rvX0 => first | k_is | (decide +kernel) | rfl | decide)
    (case ax0 => first | k_is | (decide +kernel) | rfl | decide)
    (case tx0 => first | k_is | (decide +kernel) | rfl | decide)
    (case lx0 => first | k_is | (decide +kernel) | rfl | decide)
    (case cx0 => first | k_is | (decide +kernel) | rfl | decide)
    (case kx0 => first | k_is | (decide +kernel) | rfl | decide)
    (case saX0 => first | k_is | (decide +kernel) | rfl | decide)
    (case gaX0 => first | k_is | (decide +kernel) | rfl | decide)
    (case ggX0 => first | k_is | (decide +kernel) | rfl | decide)
    (case kCX0 => first | k_is | (decide +kernel) | rfl | decide)
    (case eCX0 => first | k_is | (decide +kernel) | rfl | decide)
    (case tCX0 => first | k_is | (decide +kernel) | rfl | decide)
    (case hCX0 => first | k_is | (decide +kernel) | rfl | decide)
    (case iCX0 => first | k_is | (decide +kernel) | rfl | decide)
    (case sCX0 => first | k_is | (decide +kernel) | rfl | decide)
    (case nX0_index => first | k_is | (decide +kernel) | rfl | decide)
    (case aB0 => first | k_is | (decide +kernel) | rfl | decide)
    (case eCB0 => first | k_is | (decide +kernel) | rfl | decide)
    (case iCB0 => first | k_is | (decide +kernel) | rfl | decide)
    (case tCB0 => first | k_is | (decide +kernel) | rfl | decide)
    (case aB1 => first | k_is | (decide +kernel) | rfl | decide)
    (case eCB1 => first | k_is | (decide +kernel) | rfl | decide)
    (case iCB1 => first | k_is | (decide +kernel) | rfl | decide)
    (case tCB1 => first | k_is | (decide +kernel) | rfl | decide)
    (case aB2 => first | k_is | (decide +kernel) | rfl | decide)
    (case eCB2 => first | k_is | (decide +kernel) | rfl | decide)
    (case iCB2 => first | k_is | (decide +kernel) | rfl | decide)
    (case tCB2 => first | k_is | (decide +kernel) | rfl | decide)
    (case aB3 => first | k_is | (decide +kernel) | rfl | decide)
    (case eCB3 => first | k_is | (decide +kernel) | rfl | decide)
    (case iCB3 => first | k_is | (decide +kernel) | rfl | decide)
    (case tCB3 => first | k_is | (decide +kernel) | rfl | decide)
    (case aB4 => first | k_is | (decide +kernel) | rfl | decide)
    (case eCB4 => first | k_is | (decide +kernel) | rfl | decide)
    (case iCB4 => first | k_is | (decide +kernel) | rfl | decide)
    (case tCB4 => first | k_is | (decide +kernel) | rfl | decide)
    (case atX0 => first | k_is | (decide +kernel) | rfl | decide)
    (case gtX0 => first | k_is | (decide +kernel) | rfl | decide)
    (case tkX0 => first | k_is | (decide +kernel) | rfl | decide)
    (case mrX0 => first | k_is | (decide +kernel) | rfl | decide)
    (case uBadRow_qBadForm => first | k_is | (decide +kernel) | rfl | decide)
    (case neBadRow_qBadForm => first | k_is | (decide +kernel) | rfl | decide)
    (case uBadRow_qBadRule => first | k_is | (decide +kernel) | rfl | decide)
    (case neBadRow_qBadRule => first | k_is | (decide +kernel) | rfl | decide)
    (case uBadRow_qBadRun => first | k_is | (decide +kernel) | rfl | decide)
    (case neBadRow_qBadRun => first | k_is | (decide +kernel) | rfl | decide)
    (case uBadRow_qNotOfKind => first | k_is | (decide +kernel) | rfl | decide)
    (case neBadRow_qNotOfKind => first | k_is | (decide +kernel) | rfl | decide)
    (case uBadRow_qValueError => first | k_is | (decide +kernel) | rfl | decide)
    (case uBadRow_xLeashError => first | k_is | (decide +kernel) | rfl | decide)
    (case ad0 => first | k_is | (decide +kernel) | rfl | decide)
    (case ld0 => first | k_is | (decide +kernel) | rfl | decide)
    (case cd0 => first | k_is | (decide +kernel) | rfl | decide)
    (case kd0 => first | k_is | (decide +kernel) | rfl | decide)
    (case ad1 => first | k_is | (decide +kernel) | rfl | decide)
    (case ld1 => first | k_is | (decide +kernel) | rfl | decide)
    (case cd1 => first | k_is | (decide +kernel) | rfl | decide)
    (case kd1 => first | k_is | (decide +kernel) | rfl | decide)
    (case ad2 => first | k_is | (decide +kernel) | rfl | decide)
    (case ld2 => first | k_is | (decide +kernel) | rfl | decide)
    (case cd2 => first | k_is | (decide +kernel) | rfl | decide)
    (case kd2 => first | k_is | (decide +kernel) | rfl | decide)
    (case ad3 => first | k_is | (decide +kernel) | rfl | decide)
    (case ld3 => first | k_is | (decide +kernel) | rfl | decide)
    (case cd3 => first | k_is | (decide +kernel) | rfl | decide)
    (case kd3 => first | k_is | (decide +kernel) | rfl | decide)
    (case ad4 => first | k_is | (decide +kernel) | rfl | decide)
    (case ld4 => first | k_is | (decide +kernel) | rfl | decide)
    (case cd4 => first | k_is | (decide +kernel) | rfl | decide)
    (case kd4 => first | k_is | (decide +kernel) | rfl | decide)
    (case ad5 => first | k_is | (decide +kernel) | rfl | decide)
    (case ld5 => first | k_is | (decide +kernel) | rfl | decide)
    (case cd5 => first | k_is | (decide +kernel) | rfl | decide)
    (case kd5 => first | k_is | (decide +kernel) | rfl | decide)
    (case ad6 => first | k_is | (decide +kernel) | rfl | decide)
    (case ld6 => first | k_is | (decide +kernel) | rfl | decide)
    (case cd6 => first | k_is | (decide +kernel) | rfl | decide)
    (case kd6 => first | k_is | (decide +kernel) | rfl | decide)
    (case ad7 => first | k_is | (decide +kernel) | rfl | decide)
    (case ld7 => first | k_is | (decide +kernel) | rfl | decide)
    (case cd7 => first | k_is | (decide +kernel) | rfl | decide)
    (case kd7 => first | k_is | (decide +kernel) | rfl | decide)
    (case ad8 => first | k_is | (decide +kernel) | rfl | decide)
    (case ld8 => first | k_is | (decide +kernel) | rfl | decide)
    (case cd8 => first | k_is | (decide +kernel) | rfl | decide)
    (case kd8 => first | k_is | (decide +kernel) | rfl | decide)
    (case ad9 => first | k_is | (decide +kernel) | rfl | decide)
    (case ld9 => first | k_is | (decide +kernel) | rfl | decide)
    (case cd9 => first | k_is | (decide +kernel) | rfl | decide)
    (case kd9 => first | k_is | (decide +kernel) | rfl | decide)
    (case ad10 => first | k_is | (decide +kernel) | rfl | decide)
    (case ld10 => first | k_is | (decide +kernel) | rfl | decide)
    (case cd10 => first | k_is | (decide +kernel) | rfl | decide)
    (case kd10 => first | k_is | (decide +kernel) | rfl | decide)
    (case ad11 => first | k_is | (decide +kernel) | rfl | decide)
    (case ld11 => first | k_is | (decide +kernel) | rfl | decide)
    (case cd11 => first | k_is | (decide +kernel) | rfl | decide)
    (case kd11 => first | k_is | (decide +kernel) | rfl | decide)
    (case ad12 => first | k_is | (decide +kernel) | rfl | decide)
    (case ld12 => first | k_is | (decide +kernel) | rfl | decide)
    (case cd12 => first | k_is | (decide +kernel) | rfl | decide)
    (case kd12 => first | k_is | (decide +kernel) | rfl | decide)
    (case ad13 => first | k_is | (decide +kernel) | rfl | decide)
    (case ld13 => first | k_is | (decide +kernel) | rfl | decide)
    (case cd13 => first | k_is | (decide +kernel) | rfl | decide)
    (case kd13 => first | k_is | (decide +kernel) | rfl | decide)
    (case ad14 => first | k_is | (decide +kernel) | rfl | decide)
    (case ld14 => first | k_is | (decide +kernel) | rfl | decide)
    (case cd14 => first | k_is | (decide +kernel) | rfl | decide)
    (case kd14 => first | k_is | (decide +kernel) | rfl | decide)
    (case ad15 => first | k_is | (decide +kernel) | rfl | decide)
    (case ld15 => first | k_is | (decide +kernel) | rfl | decide)
    (case cd15 => first | k_is | (decide +kernel) | rfl | decide)
    (case kd15 => first | k_is | (decide +kernel) | rfl | decide)
    (case ad16 => first | k_is | (decide +kernel) | rfl | decide)
    (case ld16 => first | k_is | (decide +kernel) | rfl | decide)
    (case cd16 => first | k_is | (decide +kernel) | rfl | decide)
    (case kd16 => first | k_is | (decide +kernel) | rfl | decide)
    (case ad17 => first | k_is | (decide +kernel) | rfl | decide)
    (case ld17 => first | k_is | (decide +kernel) | rfl | decide)
    (case cd17 => first | k_is | (decide +kernel) | rfl | decide)
    (case kd17 => first | k_is | (decide +kernel) | rfl | decide)
    (case ad18 => first | k_is | (decide +kernel) | rfl | decide)
    (case ld18 => first | k_is | (decide +kernel) | rfl | decide)
    (case cd18 => first | k_is | (decide +kernel) | rfl | decide)
    (case kd18 => first | k_is | (decide +kernel) | rfl | decide)
    (case ad19 => first | k_is | (decide +kernel) | rfl | decide)
    (case ld19 => first | k_is | (decide +kernel) | rfl | decide)
    (case cd19 => first | k_is | (decide +kernel) | rfl | decide)
    (case kd19 => first | k_is | (decide +kernel) | rfl | decide)
    (case ad20 => first | k_is | (decide +kernel) | rfl | decide)
    (case ld20 => first | k_is | (decide +kernel) | rfl | decide)
    (case cd20 => first | k_is | (decide +kernel) | rfl | decide)
    (case kd20 => first | k_is | (decide +kernel) | rfl | decide)
    (case ad21 => first | k_is | (decide +kernel) | rfl | decide)
    (case ld21 => first | k_is | (decide +kernel) | rfl | decide)
    (case cd21 => first | k_is | (decide +kernel) | rfl | decide)
    (case kd21 => first | k_is | (decide +kernel) | rfl | decide)
    (case ad22 => first | k_is | (decide +kernel) | rfl | decide)
    (case ld22 => first | k_is | (decide +kernel) | rfl | decide)
    (case cd22 => first | k_is | (decide +kernel) | rfl | decide)
    (case kd22 => first | k_is | (decide +kernel) | rfl | decide)
    (case ad23 => first | k_is | (decide +kernel) | rfl | decide)
    (case ld23 => first | k_is | (decide +kernel) | rfl | decide)
    (case cd23 => first | k_is | (decide +kernel) | rfl | decide)
    (case kd23 => first | k_is | (decide +kernel) | rfl | decide)
    (case ad24 => first | k_is | (decide +kernel) | rfl | decide)
    (case ld24 => first | k_is | (decide +kernel) | rfl | decide)
    (case cd24 => first | k_is | (decide +kernel) | rfl | decide)
    (case kd24 => first | k_is | (decide +kernel) | rfl | decide)
    (case ad25 => first | k_is | (decide +kernel) | rfl | decide)
    (case ld25 => first | k_is | (decide +kernel) | rfl | decide)
    (case cd25 => first | k_is | (decide +kernel) | rfl | decide)
    (case kd25 => first | k_is | (decide +kernel) | rfl | decide)
    (case ad26 => first | k_is | (decide +kernel) | rfl | decide)
    (case ld26 => first | k_is | (decide +kernel) | rfl | decide)
    (case cd26 => first | k_is | (decide +kernel) | rfl | decide)
    (case kd26 => first | k_is | (decide +kernel) | rfl | decide)
    (case ad27 => first | k_is | (decide +kernel) | rfl | decide)
    (case ld27 => first | k_is | (decide +kernel) | rfl | decide)
    (case cd27 => first | k_is | (decide +kernel) | rfl | decide)
    (case kd27 => first | k_is | (decide +kernel) | rfl | decide)
    (case ad28 => first | k_is | (decide +kernel) | rfl | decide)
    (case ld28 => first | k_is | (decide +kernel) | rfl | decide)
    (case cd28 => first | k_is | (decide +kernel) | rfl | decide)
    (case kd28 => first | k_is | (decide +kernel) | rfl | decide)
    (case ad29 => first | k_is | (decide +kernel) | rfl | decide)
    (case ld29 => first | k_is | (decide +kernel) | rfl | decide)
    (case cd29 => first | k_is | (decide +kernel) | rfl | decide)
    (case kd29 => first | k_is | (decide +kernel) | rfl | decide)
    (case ad30 => first | k_is | (decide +kernel) | rfl | decide)
    (case ld30 => first | k_is | (decide +kernel) | rfl | decide)
    (case cd30 => first | k_is | (decide +kernel) | rfl | decide)
    (case kd30 => first | k_is | (decide +kernel) | rfl | decide)
    (case ad31 => first | k_is | (decide +kernel) | rfl | decide)
    (case ld31 => first | k_is | (decide +kernel) | rfl | decide)
    (case cd31 => first | k_is | (decide +kernel) | rfl | decide)
    (case kd31 => first | k_is | (decide +kernel) | rfl | decide)
    (case ad32 => first | k_is | (decide +kernel) | rfl | decide)
    (case ld32 => first | k_is | (decide +kernel) | rfl | decide)
    (case cd32 => first | k_is | (decide +kernel) | rfl | decide)
    (case kd32 => first | k_is | (decide +kernel) | rfl | decide)
    (case ad33 => first | k_is | (decide +kernel) | rfl | decide)
    (case ld33 => first | k_is | (decide +kernel) | rfl | decide)
    (case cd33 => first | k_is | (decide +kernel) | rfl | decide)
    (case kd33 => first | k_is | (decide +kernel) | rfl | decide)
    (case ad34 => first | k_is | (decide +kernel) | rfl | decide)
    (case ld34 => first | k_is | (decide +kernel) | rfl | decide)
    (case cd34 => first | k_is | (decide +kernel) | rfl | decide)
    (case kd34 => first | k_is | (decide +kernel) | rfl | decide)
    (case z_ValueError => first | k_is | (decide +kernel) | rfl | decide)
    (case z_bool => first | k_is | (decide +kernel) | rfl | decide)
    (case z_enumerate => first | k_is | (decide +kernel) | rfl | decide)
    (case z_int => first | k_is | (decide +kernel) | rfl | decide)
    (case z_isinstance => first | k_is | (decide +kernel) | rfl | decide)
    (case z_len => first | k_is | (decide +kernel) | rfl | decide)
    (case z_list => first | k_is | (decide +kernel) | rfl | decide)
    (case z_max => first | k_is | (decide +kernel) | rfl | decide)
    (case z_min => first | k_is | (decide +kernel) | rfl | decide)
    (case z_range => first | k_is | (decide +kernel) | rfl | decide)
    (case z_str => first | k_is | (decide +kernel) | rfl | decide)
    (case z_tuple => first | k_is | (decide +kernel) | rfl | decide)
    (case z_LETTERS => first | k_is | (decide +kernel) | rfl | decide)
end
#print axioms PySem.Challenge.cw_fourleashes_k40_derivations_holds
