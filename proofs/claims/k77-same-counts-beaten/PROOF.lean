import PyProof.Rows.All
import Wide.All
import OpenK.AllK
import Wide.FinOn
import HandS.ForMost
import HandS.TupAny
import HandS.IsInst
import HandS.Deep
import HandS.WordsExc
import HandS.Wide
import HandS.RaiseMore
import HandS.SetFor
import HandS.Text
import HandS.ExcIs
import HandS.SetKeys
import KE.KDictKeyed
import HandS.DictComp
import HandS.Conv
import KE.GoesMore
import KE.GoesEnum
import HandS.ExcInit
import HandS.ExcField
import HandS.ExcOwn
import KE.KExcIs
import HandS.TryOnly
import HandS.OwnEq
import HandS.FStr
import HandS.Codes
import HandS.Style
import KE.KRevSl
import PyProof.SliceStr2
import HandS.Dict
import HandS.MakeKwOnly
import HandS.Replace
import PySem.Challenge.RW_fourleashes_k77_same_counts_beaten
set_option Elab.async false
set_option linter.all false
set_option maxRecDepth 100000
set_option maxHeartbeats 8000000
section
/-! LA: dicts whose keys are nested tuples, at the hand layer: what stands at an address is told by HO.ext (dφ ..); rules for both kinds of dicts (DGetX, DPutX). -/
namespace VL
open PySem PySem.Spec PyProof.Rows L2

abbrev NE := NestedKey × Addr × Value
/-- at l stands a dict of these entries -/
def dφ (w : World) (l : Addr) (xs : List NE) : Heap → Prop := fun h => (l == sysModules) = false ∧ xs.length ≤ sizeLine ∧
  ∃ o es ep, h.get? l = some o ∧ o.ExactDict ∧ o.data = .dict es ep ∧ es.toList = xs.map (fun x => (⟨NestedKey.hash w x.1, .ref x.2.1, x.2.2⟩ : DictEntry)) ∧ (xs.map (·.1)).Nodup
theorem dφ_ok {P : Program} {w : World} {H : Hp} {h : Heap} {l : Addr} {xs : List NE} (x : dφ w l xs h) : ObjOk P w H h l (.ext (dφ w l xs)) := by
  obtain ⟨h1, h2, o, es, ep, h3, h4⟩ := x
  exact ⟨⟨h1, h2, o, es, ep, h3, h4⟩, ⟨o, h3⟩, fun a b ⟨g1, g2, q, fs, fp, g3, g4⟩ k => ⟨g1, g2, q, fs, fp, k _ g3, g4⟩⟩
theorem pairs_eq {w : World} : ∀ {xs ys : List NE}, xs.map ((fun e : DictEntry => (e.key, e.val)) ∘ fun x => (⟨NestedKey.hash w x.1, .ref x.2.1, x.2.2⟩ : DictEntry)) = ys.map ((fun e : DictEntry => (e.key, e.val)) ∘ fun x => (⟨NestedKey.hash w x.1, .ref x.2.1, x.2.2⟩ : DictEntry)) → xs.map (·.2) = ys.map (·.2)
  | [], [], _ => rfl
  | [], _ :: _, e => by simp at e
  | _ :: _, [], e => by simp at e
  | x :: xs, y :: ys, e => by
    simp only [List.map_cons, List.cons.injEq, Function.comp_apply, Prod.mk.injEq, Value.ref.injEq] at e
    obtain ⟨⟨h1, h2⟩, h3⟩ := e
    rw [List.map_cons, List.map_cons, pairs_eq h3, Prod.ext (x := x.2) (y := y.2) h1 h2]
/-- the entries are determined -/
theorem dφ_inj {w : World} {l : Addr} {xs ys : List NE} (hl : (l == sysModules) = false) (hz : xs.length ≤ sizeLine) (hn : (xs.map (·.1)).Nodup) (e : dφ w l xs = dφ w l ys) : xs.map (·.2) = ys.map (·.2) := by
  let o : Obj := { cls := .type "dict", data := .dict (xs.map (fun x => (⟨NestedKey.hash w x.1, .ref x.2.1, x.2.2⟩ : DictEntry))).toArray 0 }
  let h : Heap := { objs := Array.replicate (l + 1) o }
  have hg : h.get? l = some o := by
    have e1 : (Array.replicate (l + 1) o)[l]? = some o := by rw [Array.getElem?_replicate, if_pos (Nat.lt_succ_self l)]
    unfold Heap.get?
    rw [show h.objs[l]? = some o from e1]
  have hx : dφ w l xs h := ⟨hl, hz, o, _, 0, hg, ⟨rfl, rfl, rfl⟩, rfl, by simp, hn⟩
  rw [e] at hx
  obtain ⟨_, _, o', es, ep, g1, _, g2, g3, _⟩ := hx
  rw [hg] at g1
  cases g1
  have g4 : Data.dict (xs.map (fun x => (⟨NestedKey.hash w x.1, .ref x.2.1, x.2.2⟩ : DictEntry))).toArray 0 = Data.dict es ep := g2
  injection g4 with g5 _
  rw [← g5] at g3
  have g6 : xs.map (fun x => (⟨NestedKey.hash w x.1, .ref x.2.1, x.2.2⟩ : DictEntry)) = ys.map (fun x => (⟨NestedKey.hash w x.1, .ref x.2.1, x.2.2⟩ : DictEntry)) := by simpa using g3
  have g7 := congrArg (List.map fun e : DictEntry => (e.key, e.val)) g6
  rw [List.map_map, List.map_map] at g7
  exact pairs_eq g7
mutual
/-- a value is this key -/
inductive NKey (K : PySem.W.Frag) (H : Hp) : V → NestedKey → Prop
  | non : NKey K H .non .none
  | bl (b : Bool) : NKey K H (.bl b) (.num (if b then 1 else 0))
  | int (i : Int) : NKey K H (.int i) (.num i)
  | str (x : Str) : NKey K H (.str x) (.text x)
  | tup {a : Addr} {xs : List V} {ks : List NestedKey} : SqT K H a xs → NKeyL K H xs ks → NKey K H (.ref a) (.tup ks)
inductive NKeyL (K : PySem.W.Frag) (H : Hp) : List V → List NestedKey → Prop
  | nil : NKeyL K H [] []
  | cons {v : V} {vs : List V} {k : NestedKey} {ks : List NestedKey} : NKey K H v k → NKeyL K H vs ks → NKeyL K H (v :: vs) (k :: ks)
end
section
variable {X : Cx} {pins : List (Addr × Obj)} {σ : L2.St} {H : Hp} {s : Shared}
mutual
theorem nkey_is (I : Inv X pins σ H s) : ∀ (k : NestedKey) (v : V) (u : Value), NKey X.K H v k → RelV v u → NestedIs s.heap k u
  | .none, _, _, h, r => by cases h; cases r; exact .none
  | .num i, _, _, h, r => by
    cases h with
    | bl b => cases r; exact .bool (by cases b <;> rfl)
    | int => obtain ⟨t, rfl⟩ := r; exact .int _ _
  | .text x, _, _, h, r => by cases h; obtain ⟨t, rfl⟩ := r; exact .text _ _
  | .tup ks, _, _, h, r => by
    cases h with
    | tup h1 h2 =>
      cases r
      obtain ⟨its, r1, ⟨o, e1, e2, n, e3⟩, _⟩ := I.tuple h1
      exact .tup e1 e2 e3 (by simpa using nkeyL_is I ks _ _ h2 r1)
theorem nkeyL_is (I : Inv X pins σ H s) : ∀ (ks : List NestedKey) (vs : List V) (us : List Value), NKeyL X.K H vs ks → Vals vs us → NestedAll s.heap ks us
  | [], _, _, h, r => by cases h; cases r; exact .nil
  | k :: ks, _, _, h, r => by
    cases h with
    | cons h1 h2 =>
      cases r with
      | cons r1 r2 => exact .cons (nkey_is I k _ _ h1 r1) (nkeyL_is I ks _ _ h2 r2)
end
end
/-- a tuple at a is this key -/
def NK (K : PySem.W.Frag) (H : Hp) (a : Addr) (k : NestedKey) : Prop := NKey K H (.ref a) k ∧ k.depth ≤ 8
/-- a dict with nested keys at l -/
def DN (K : PySem.W.Frag) (w : World) (H : Hp) (l : Addr) (xs : List NE) : Prop := Rd H l (.ext (dφ w l xs)) ∧ ∀ x ∈ xs, NK K H x.2.1 x.1
theorem nk_is {X : Cx} {pins : List (Addr × Obj)} {σ : L2.St} {H : Hp} {s : Shared} (I : Inv X pins σ H s) {a : Addr} {k : NestedKey} (h : NK X.K H a k) : (nestedKind X.prog X.w).is s.heap k a := ⟨nkey_is I k _ _ h.1 rfl, h.2⟩
theorem dn_rd {X : Cx} {pins : List (Addr × Obj)} {σ : L2.St} {H : Hp} {s : Shared} (I : Inv X pins σ H s) {l : Addr} {xs : List NE} (h : DN X.K X.w H l xs) :
    (l == sysModules) = false ∧ xs.length ≤ sizeLine ∧ s.heap.DictOfH (nestedKind X.prog X.w) l xs := by
  obtain ⟨h1, h2⟩ := h
  obtain ⟨⟨g1, g2, o, es, ep, g3, g4, g5, g6, g7⟩, _⟩ := (show ObjOk X.prog X.w H s.heap l (.ext _) from h1.ok I.hok)
  exact ⟨g1, g2, o, es, ep, g3, g4, g5, g6, fun x hx => nk_is I (h2 x hx), g7⟩
def valN (xs : List NE) (k : NestedKey) : Option V := (atKey xs k).bind fun p => absV p.2
theorem valN_rel {xs : List NE} {vs : List V} (hv : Vals vs (xs.map (·.2.2))) (k : NestedKey) : RelO (valN xs k) ((atKey xs k).map (·.2)) := by
  unfold valN
  cases hf : atKey xs k with
  | none => exact True.intro
  | some p =>
    unfold atKey at hf
    simp only [Option.map_eq_some_iff] at hf
    obtain ⟨x, hx, rfl⟩ := hf
    have hm := List.mem_of_find?_eq_some hx
    clear hx
    show RelO (absV x.2.2) (some x.2.2)
    clear k
    induction xs generalizing vs with
    | nil => cases hm
    | cons y ys ih =>
      rw [List.map_cons] at hv
      cases hv with
      | cons r rs =>
        rcases List.mem_cons.mp hm with e | e
        · subst e
          rw [r.abs]; exact r
        · exact ih rs e
/-- d[k] for both kinds -/
def DGetX (K : PySem.W.Frag) (w : World) (H : Hp) (a : Addr) (y : V) (o : Option V) : Prop :=
  DGet H a y o ∨ ∃ xs vs k b, DN K w H a xs ∧ Vals vs (xs.map (·.2.2)) ∧ y = .ref b ∧ NK K H b k ∧ o = valN xs k
def DPutX (K : PySem.W.Frag) (w : World) (H : Hp) (a : Addr) (y v : V) (P : Hp → Prop) : Prop :=
  (∃ H', DPut H a y v H' ∧ P H') ∨ ∃ xs k b, H a = some (.ext (dφ w a xs)) ∧ (∀ x ∈ xs, NK K H x.2.1 x.1) ∧ y = .ref b ∧ NK K H b k ∧ xs.length < sizeLine ∧ ∀ u, RelV v u → P (upd H a (.ext (dφ w a (storedH xs k b u))))
theorem length_storedH {xs : List NE} {k : NestedKey} {b : Addr} {u : Value} : (storedH xs k b u).length ≤ xs.length + 1 := by
  unfold storedH
  split
  · rw [List.length_map]; omega
  · rw [List.length_append, List.length_cons, List.length_nil]; omega
section
variable {X : Cx} {pins : List (Addr × Obj)} {σ : L2.St} {H : Hp} {s : Shared} {a : Addr} {y v d : V} {u r : Value} {o : Option V} {A : Around} {E : Value → Shared → Prop}
theorem room_n {A : Around} (hu : A.units + 64 < cLine) : (nestedKind X.prog X.w).room A.in1 := by
  show A.units + 1 + 8 < cLine
  omega
theorem dx_getItem {Q : Value → Shared → Prop} (hu : A.units + 64 < cLine) (I : Inv X pins σ H s) (g : DGetX X.K X.w H a y (some v)) (ry : RelV y u) (h : ∀ w' s', Inv X pins σ H s' → RelV v w' → Q w' s') :
    wpAny (model X.prog X.w) A (getItem (.ref a) u) Q E s := by
  rcases g with g | ⟨xs, vs, k, b, e, hv, ey, eb, l⟩
  · exact d_getItem (by omega) I g ry h
  · subst ey
    cases (show u = Value.ref b from ry)
    obtain ⟨hd, z, dd⟩ := dn_rd I e
    obtain ⟨w', hw, rw'⟩ := RelO.some_of (v := v) (o := (atKey xs k).map (·.2)) (by rw [l]; exact valN_rel hv k)
    obtain ⟨p, hp, hp2⟩ := Option.map_eq_some_iff.mp hw
    refine wpAny_getItem_heap (room_n hu) (nk_is I eb) dd hp ?_
    rw [hp2]
    exact h w' _ (I.tok _) rw'
theorem dx_in {Q : Value → Shared → Prop} (hu : A.units + 64 < cLine) (I : Inv X pins σ H s) (g : DGetX X.K X.w H a y o) (ry : RelV y u) (h : ∀ s', Inv X pins σ H s' → Q (.bool o.isSome) s') :
    wpAny (model X.prog X.w) A (compareOp .In u (.ref a)) Q E s := by
  rcases g with g | ⟨xs, vs, k, b, e, hv, ey, eb, l⟩
  · exact d_in (by omega) I g ry h
  · subst ey
    cases (show u = Value.ref b from ry)
    obtain ⟨hd, z, dd⟩ := dn_rd I e
    refine wpAny_in_heap (room_n hu) (nk_is I eb) hd dd ?_
    have q := (valN_rel hv k).isSome_eq
    rw [Option.isSome_map] at q
    rw [← q, ← l]
    exact h _ (I.tok _)
theorem dx_notIn {Q : Value → Shared → Prop} (hu : A.units + 64 < cLine) (I : Inv X pins σ H s) (g : DGetX X.K X.w H a y o) (ry : RelV y u) (h : ∀ s', Inv X pins σ H s' → Q (.bool (!o.isSome)) s') :
    wpAny (model X.prog X.w) A (compareOp .NotIn u (.ref a)) Q E s := by
  rcases g with g | ⟨xs, vs, k, b, e, hv, ey, eb, l⟩
  · exact d_notIn (by omega) I g ry h
  · subst ey
    cases (show u = Value.ref b from ry)
    obtain ⟨hd, z, dd⟩ := dn_rd I e
    refine wpAny_notIn_heap (room_n hu) (nk_is I eb) hd dd ?_
    have q := (valN_rel hv k).isSome_eq
    rw [Option.isSome_map] at q
    rw [← q, ← l]
    exact h _ (I.tok _)
theorem dx_setItem {P : Hp → Prop} {Q : Unit → Shared → Prop} (hu : A.units + 64 < cLine) (I : Inv X pins σ H s) (g : DPutX X.K X.w H a y v P) (ry : RelV y u) (rv : RelV v r) (h : ∀ H' s', P H' → Inv X pins σ H' s' → Q () s') :
    wpAny (model X.prog X.w) A (setItem (.ref a) u r) Q E s := by
  rcases g with ⟨H', g, p⟩ | ⟨xs, k, b, e, he, ey, eb, hl, p⟩
  · exact d_setItem (by omega) I g ry rv fun s' I' => h H' s' p I'
  · subst ey
    cases (show u = Value.ref b from ry)
    obtain ⟨hd, z, dd⟩ := dn_rd I ⟨.inl e, he⟩
    refine wpAny_setItem_heap (hsz := z) (room_n hu) (nk_is I eb) dd fun h' dd' hs => h _ _ (p r rv) ?_
    obtain ⟨q, es, ep, hq, h2, h3, h4, _, h5⟩ := dd'
    exact d_write I (by rw [e]; exact True.intro) hs ⟨q, hq⟩ (dφ_ok ⟨hd, by have := length_storedH (xs := xs) (k := k) (b := b) (u := r); omega, q, es, ep, hq, h2, h3, h4, h5⟩)
theorem dx_get1 {Q : Value → Shared → Prop} (hu : A.units + 64 < cLine) (I : Inv X pins σ H s) (g : DGetX X.K X.w H a y o) (ry : RelV y u) (h : ∀ w' s', Inv X pins σ H s' → RelV (o.getD .non) w' → Q w' s') :
    wpAny (model X.prog X.w) A (call (.builtin "dict.get") [.ref a, u]) Q E s := by
  rcases g with g | ⟨xs, vs, k, b, e, hv, ey, eb, l⟩
  · exact d_get1 (by omega) I g ry h
  · subst ey
    cases (show u = Value.ref b from ry)
    obtain ⟨hd, z, dd⟩ := dn_rd I e
    refine call_meetsIn PySem.F.slot_dict_get dd.typeIs PySem.F.entry_dict_get (PySem.F.args_dict_get_2 _ _) (meetsH_dict_get (nestedKind X.prog X.w) a b hd) ⟨room_n hu, k, xs, nk_is I eb, dd, h _ _ (I.tok _) ?_⟩
    rw [l]
    exact (valN_rel hv k).getD rfl
theorem dx_get2 {Q : Value → Shared → Prop} (hu : A.units + 64 < cLine) (I : Inv X pins σ H s) (g : DGetX X.K X.w H a y o) (ry : RelV y u) (rd : RelV d r) (h : ∀ w' s', Inv X pins σ H s' → RelV (o.getD d) w' → Q w' s') :
    wpAny (model X.prog X.w) A (call (.builtin "dict.get") [.ref a, u, r]) Q E s := by
  rcases g with g | ⟨xs, vs, k, b, e, hv, ey, eb, l⟩
  · exact d_get2 (by omega) I g ry rd h
  · subst ey
    cases (show u = Value.ref b from ry)
    obtain ⟨hd, z, dd⟩ := dn_rd I e
    refine call_meetsIn PySem.F.slot_dict_get dd.typeIs PySem.F.entry_dict_get (PySem.F.args_dict_get_3 _ _ _) (meetsH_dict_get_default (nestedKind X.prog X.w) a b hd r) ⟨room_n hu, k, xs, nk_is I eb, dd, h _ _ (I.tok _) ?_⟩
    rw [l]
    exact (valN_rel hv k).getD rd
theorem dx_typeIs (I : Inv X pins σ H s) (g : DGetX X.K X.w H a y o) : s.TypeIs (.ref a) "dict" := by
  rcases g with g | ⟨xs, vs, k, b, e, hv, ey, eb, l⟩
  · exact dict_typeIs I g
  · exact (dn_rd I e).2.2.typeIs
end
/-- a dict of either kind stands at a -/
def IsDX (K : PySem.W.Frag) (w : World) (H : Hp) (a : Addr) : Prop := (∃ kvs, Rd H a (.dK kvs)) ∨ ∃ xs, DN K w H a xs
theorem isDX_at {X : Cx} {pins : List (Addr × Obj)} {σ : L2.St} {H : Hp} {s : Shared} {a : Addr} (I : Inv X pins σ H s) (d : IsDX X.K X.w H a) :
    s.TypeIs (.ref a) "dict" ∧ (∀ b, Value.ref a = .ref b → ∃ ob, s.heap.get? b = some ob ∧ ob.dict = none) ∧ (a == sysModules) = false := by
  rcases d with ⟨kvs, e⟩ | ⟨xs, e⟩
  · exact isD_at I (.inl ⟨kvs, e⟩)
  · obtain ⟨hd, _, dd⟩ := dn_rd I e
    refine ⟨dd.typeIs, fun b q => ?_, hd⟩
    cases q
    obtain ⟨ob, _, _, h1, h2, _⟩ := dd
    exact ⟨ob, h1, h2.2.1⟩
/-! readings -/
def tDGetX (K : PySem.W.Frag) (w : World) (td ty : TE) : TE := fun σ H Q => td σ H fun x H1 => ty σ H1 fun y H2 => ∃ a v, x = .ref a ∧ DGetX K w H2 a y (some v) ∧ Q v H2
def tDInX (K : PySem.W.Frag) (w : World) (ty td : TE) : TE := fun σ H Q => ty σ H fun y H1 => td σ H1 fun x H2 => ∃ a o, x = .ref a ∧ DGetX K w H2 a y o ∧ Q (.bl o.isSome) H2
def tDNotInX (K : PySem.W.Frag) (w : World) (ty td : TE) : TE := fun σ H Q => ty σ H fun y H1 => td σ H1 fun x H2 => ∃ a o, x = .ref a ∧ DGetX K w H2 a y o ∧ Q (.bl (!o.isSome)) H2
def sDPutX (K : PySem.W.Frag) (w : World) (td ty tv : TE) : TS := fun D σ H => tv σ H fun v H1 => td σ H1 fun x H2 => ty σ H2 fun y H3 => ∃ a, x = .ref a ∧ DPutX K w H3 a y v (D.nx σ)
def sDAugX (K : PySem.W.Frag) (w : World) (td ty tv : TE) (rd : V → V → Hp → VK → Prop) : TS := fun D σ H => td σ H fun x H1 => ty σ H1 fun y H2 => ∃ a v, x = .ref a ∧ DGetX K w H2 a y (some v) ∧
  tv σ H2 fun y2 H3 => rd v y2 H3 fun z H4 => DPutX K w H4 a y z (D.nx σ)
def tDGet1X (K : PySem.W.Frag) (w : World) (td ty : TE) : TE := fun σ H Q => td σ H fun x H1 => ∃ a, x = .ref a ∧ IsDX K w H1 a ∧ ty σ H1 fun y H2 => ∃ o, DGetX K w H2 a y o ∧ Q (o.getD .non) H2
def tDGet2X (K : PySem.W.Frag) (w : World) (td ty tx : TE) : TE := fun σ H Q => td σ H fun x H1 => ∃ a, x = .ref a ∧ IsDX K w H1 a ∧ ty σ H1 fun y H2 => tx σ H2 fun z H3 => ∃ o, DGetX K w H3 a y o ∧ Q (o.getD z) H3
/-- {} whose keys will be tuples -/
def tDNewN (w : World) : TE := fun _ H Q => ∀ p, H p = none → (p == sysModules) = false → Q (.ref p) (upd H p (.ext (dφ w p [])))
section
variable {X : Cx} {o i e f value : Expr} {pos pos' tpos apos cpos : Pos} {td ty tv tx : TE} {K : PySem.W.Frag} {w : World}
theorem pe_dgetX (hK : X.K = K) (hw : X.w = w) (hu : X.A.units + 64 < cLine) (ho : PE X o td) (hi : PE X i ty) (hs : NoSl i) : PE X (.Subscript o i pos) (tDGetX K w td ty) := by
  subst hK hw
  refine ⟨fun pins s σ H Q I h => ?_⟩
  refine subD_of PySem.F.slot_dict_getitem.lookup hs (thn (ho.run pins s σ H _ I h) fun u s1 ⟨x, H1, I1, rx, q1⟩ => thn (hi.run pins s1 σ H1 _ I1 q1) fun iv s2 ⟨y, H2, I2, ry, a, v, ex, g, q2⟩ => ?_)
  subst ex
  obtain rfl : u = Value.ref a := rx
  exact ⟨dx_typeIs I2 g, dx_getItem hu I2 g ry fun w' s3 I3 rw' => ⟨v, H2, I3, rw', q2⟩⟩
theorem pc_dinX (hK : X.K = K) (hw : X.w = w) (hu : X.A.units + 64 < cLine) (hi : PE X i ty) (ho : PE X o td) : PC X .In i o (tDInX K w ty td) := by
  subst hK hw
  refine ⟨fun pins s σ H Q I h => ?_⟩
  refine thn (hi.run pins s σ H _ I h) fun iv s1 ⟨y, H1, I1, ry, q1⟩ => thn (ho.run pins s1 σ H1 _ I1 q1) fun u s2 ⟨x, H2, I2, rx, a, ov, ex, g, q2⟩ => ?_
  subst ex
  obtain rfl : u = Value.ref a := rx
  exact dx_in hu I2 g ry fun s3 I3 => ⟨.bl ov.isSome, H2, I3, rfl, q2⟩
theorem pc_dnotinX (hK : X.K = K) (hw : X.w = w) (hu : X.A.units + 64 < cLine) (hi : PE X i ty) (ho : PE X o td) : PC X .NotIn i o (tDNotInX K w ty td) := by
  subst hK hw
  refine ⟨fun pins s σ H Q I h => ?_⟩
  refine thn (hi.run pins s σ H _ I h) fun iv s1 ⟨y, H1, I1, ry, q1⟩ => thn (ho.run pins s1 σ H1 _ I1 q1) fun u s2 ⟨x, H2, I2, rx, a, ov, ex, g, q2⟩ => ?_
  subst ex
  obtain rfl : u = Value.ref a := rx
  exact dx_notIn hu I2 g ry fun s3 I3 => ⟨.bl (!ov.isSome), H2, I3, rfl, q2⟩
theorem ps_dputX (hK : X.K = K) (hw : X.w = w) (hu : X.A.units + 64 < cLine) (ho : PE X o td) (hi : PE X i ty) (hv : PE X value tv) (hs : swapsWith value (some (.Subscript o i pos')) pos.line X.env = pure false) :
    PS X (.Assign [.Subscript o i pos'] value pos) (sDPutX K w td ty tv) := by
  subst hK hw
  refine ⟨fun pins s σ H D I h => ?_⟩
  refine wpAny_Assign_Subscript (thn (hv.run pins s σ H _ I h) fun r s1 ⟨v, H1, I1, rv, q1⟩ => thn (ho.run pins s1 σ H1 _ I1 q1) fun u s2 ⟨x, H2, I2, rx, q2⟩ => thn (hi.run pins s2 σ H2 _ I2 q2) fun iv s3 ⟨y, H3, I3, ry, a, ex, g⟩ => ?_) hs
  subst ex
  obtain rfl : u = Value.ref a := rx
  exact dx_setItem hu I3 g ry rv fun H4 s4 q3 I4 => ⟨σ, H4, I4, q3⟩
theorem ps_daugX {op : Operator} {rd : V → V → Hp → VK → Prop} (hK : X.K = K) (hw : X.w = w) (hu : X.A.units + 64 < cLine) (ho : PE X o td) (hi : PE X i ty) (hv : PE X value tv) (hop : InOp X op rd)
    (ha : ∀ ov iv new, augStore i ov iv new = (do holding [new, ov, iv] (setItem ov iv new); release [new, ov, iv] []; pure .next)) : PS X (.AugAssign (.Subscript o i tpos) op value pos) (sDAugX K w td ty tv rd) := by
  subst hK hw
  refine ⟨fun pins s σ H D I h => ?_⟩
  refine wpAny_AugAssign_SubscriptAny (thn (ho.run pins s σ H _ I h) fun u s1 ⟨x, H1, I1, rx, q1⟩ => thn (hi.run pins s1 σ H1 _ I1 q1) fun iv s2 ⟨y, H2, I2, ry, a, v, ex, g, q2⟩ => ?_) ha
  subst ex
  obtain rfl : u = Value.ref a := rx
  refine dx_getItem hu I2 g ry fun w' s3 I3 rw' => thn (hv.run pins s3 σ H2 _ I3 q2) fun w2 s4 ⟨y2, H3, I4, ry2, q3⟩ => thn (hop pins s4 σ H3 v y2 w' w2 _ I4 rw' ry2 q3) fun w3 s5 ⟨z, H4, I5, rz, g5⟩ => ?_
  exact dx_setItem hu I5 g5 ry rz fun H6 s6 q4 I6 => ⟨σ, H6, I6, q4⟩
theorem pe_dget1X (hK : X.K = K) (hw : X.w = w) (hu : X.A.units + 64 < cLine) (ho : PE X o td) (he : PE X e ty) (m : M1 X o "get" apos e cpos) : PE X (.Call (.Attribute o "get" apos) [e] [] cpos) (tDGet1X K w td ty) := by
  subst hK hw
  refine ⟨fun pins s σ H Q I h => ?_⟩
  refine wpAny_Call_method m.base m.few m.line PySem.F.plainAttrs_dict PySem.F.slot_dict_get PySem.F.type_dict_get (thn (ho.run pins s σ H _ I h) fun u s1 ⟨x, H1, I1, rx, a, ex, d, q1⟩ => ?_)
  subst ex
  obtain rfl : u = Value.ref a := rx
  obtain ⟨t1, t2, _⟩ := isDX_at I1 d
  refine ⟨t1, t2, ?_⟩
  rw [m.trees]
  refine Calls.callWith_builtin rfl (Calls.evalArgs_plain (Calls.spliced_cons (thn (he.run pins s1 σ H1 _ I1 q1) fun iv s2 ⟨y, H2, I2, ry, ov, g, q2⟩ => Calls.spliced_nil ?_)))
  exact dx_get1 hu I2 g ry fun w' s3 I3 rw' => ⟨_, H2, I3, rw', q2⟩
theorem pe_dget2X (hK : X.K = K) (hw : X.w = w) (hu : X.A.units + 64 < cLine) (ho : PE X o td) (he : PE X e ty) (hf : PE X f tx) (m : M2 X o "get" apos e f cpos) : PE X (.Call (.Attribute o "get" apos) [e, f] [] cpos) (tDGet2X K w td ty tx) := by
  subst hK hw
  refine ⟨fun pins s σ H Q I h => ?_⟩
  refine wpAny_Call_method m.base m.few m.line PySem.F.plainAttrs_dict PySem.F.slot_dict_get PySem.F.type_dict_get (thn (ho.run pins s σ H _ I h) fun u s1 ⟨x, H1, I1, rx, a, ex, d, q1⟩ => ?_)
  subst ex
  obtain rfl : u = Value.ref a := rx
  obtain ⟨t1, t2, _⟩ := isDX_at I1 d
  refine ⟨t1, t2, ?_⟩
  rw [m.trees]
  refine Calls.callWith_builtin rfl (Calls.evalArgs_plain (Calls.spliced_cons (thn (he.run pins s1 σ H1 _ I1 q1) fun iv s2 ⟨y, H2, I2, ry, q2⟩ =>
    Calls.spliced_cons (thn (hf.run pins s2 σ H2 _ I2 q2) fun fv s3 ⟨z, H3, I3, rz, ov, g, q3⟩ => Calls.spliced_nil ?_))))
  exact dx_get2 hu I3 g ry rz fun w' s4 I4 rw' => ⟨_, H3, I4, rw', q3⟩
/-- as operations -/
theorem op_dinX (hK : X.K = K) (hw : X.w = w) (hu : X.A.units + 64 < cLine) : OpR X (compareOp .In) (fun y x H Q => ∃ a o, x = .ref a ∧ DGetX K w H a y o ∧ Q (.bl o.isSome) H) := by
  subst hK hw
  intro pins s σ H x y v u Q I rx ry ⟨a, o, e, g, q⟩
  subst e
  obtain rfl : u = Value.ref a := ry
  exact dx_in hu I g rx fun s3 I3 => ⟨.bl o.isSome, H, I3, rfl, q⟩
theorem op_dnotinX (hK : X.K = K) (hw : X.w = w) (hu : X.A.units + 64 < cLine) : OpR X (compareOp .NotIn) (fun y x H Q => ∃ a o, x = .ref a ∧ DGetX K w H a y o ∧ Q (.bl (!o.isSome)) H) := by
  subst hK hw
  intro pins s σ H x y v u Q I rx ry ⟨a, o, e, g, q⟩
  subst e
  obtain rfl : u = Value.ref a := ry
  exact dx_notIn hu I g rx fun s3 I3 => ⟨.bl (!o.isSome), H, I3, rfl, q⟩
theorem ix_dictX (hK : X.K = K) (hw : X.w = w) (hu : X.A.units + 64 < cLine) : IxR X (fun x y H Q => ∃ a v, x = .ref a ∧ DGetX K w H a y (some v) ∧ Q v H) := by
  subst hK hw
  intro value slice pins s σ H x y v u Q I rx ry ⟨a, r, e, g, q⟩ hs
  subst e
  obtain rfl : v = Value.ref a := rx
  have hT := dx_typeIs I g
  unfold subscriptTail
  refine wpAny_bind ?_
  rw [getitemInPython_of_ne hT.not_modules]
  refine wpAny_bind (wpAny_specialOf hT PySem.F.slot_dict_getitem.lookup ?_)
  have fin : wpAny (model X.prog X.w) X.A (subscripted slice false (.ref a) u) (fun r s₃ => wpAny (model X.prog X.w) X.A (letTemporaryGo value (.ref a) r >>= fun _ => pure r) (EP X pins σ Q) X.xe s₃) X.xe s := by
    rw [hs]
    exact wpAny_operating (dx_getItem hu I g ry fun w' s3 I3 rw' => wpAny_bind (wpAny_letTemporaryGo (wpAny_pure ⟨r, H, I3, rw', q⟩)))
  first
    | exact wpAny_pure (wpAny_bind fin)
    | exact wpAny_bind (wpAny_pure (wpAny_bind fin))
    | exact wpAny_bind fin
theorem call_lenX (hK : X.K = K) (hw : X.w = w) : CallR X (.builtin "len") (fun xs H Q => ∃ a, xs = [V.ref a] ∧ ((∃ kvs, Rd H a (.dK kvs) ∧ Q (.int kvs.length) H) ∨ ∃ es : List NE, DN K w H a es ∧ Q (.int es.length) H)) := by
  subst hK hw
  intro pins s σ H xs us Q I r ⟨a, e, h⟩
  subst e
  obtain ⟨u, rfl, ru⟩ := vals1 r
  cases ru
  rcases h with ⟨kvs, h, q⟩ | ⟨es, h, q⟩
  · exact d_len I h fun t s' I' => ⟨.int kvs.length, H, I', ⟨t, rfl⟩, q⟩
  · obtain ⟨hd, z, dd⟩ := dn_rd I h
    have hm : s.heap.DictKeyed (nestedKind X.prog X.w) a (pairsH es) := ⟨es, dd, rfl⟩
    have hl : (pairsH es).length = es.length := pairsH_length es
    refine PyProof.Rows.call_len_slot (n := (pairsH es).length) hm.typeIs F.slot_dict_len (fun Q' hq => len_keyed hd hm hq) (by omega) (by rw [hl]; rw [sizeLine_eq] at z; omega) ?_
    rw [hl]
    exact ⟨.int es.length, H, I.tok _, ⟨_, rfl⟩, q⟩
theorem pe_dnewN (hw : X.w = w) : PE X (.Dict [] [] pos) (tDNewN w) := by
  subst hw
  exact ⟨fun pins s σ H Q I h =>
    wpAny_Dict_empty ⟨.ref s.heap.objs.size, _, I.laid (a := s.heap.objs.size) (o := .ext (dφ X.w s.heap.objs.size [])) (t' := s.toks) (fun _ _ q => Heap.get?_push_of_some _ q) (Nat.le_refl _)
      (dφ_ok ⟨beq_eq_false_iff_ne.mpr (Ne.symm (Nat.ne_of_lt I.big)), Nat.zero_le _, _, #[], 0, Heap.get?_push_size _ rfl, ⟨rfl, rfl, rfl⟩, rfl, rfl, List.nodup_nil⟩), rfl, h _ (I.hok.fresh (Nat.le_refl _)) (beq_eq_false_iff_ne.mpr (Ne.symm (Nat.ne_of_lt I.big)))⟩⟩
end
/-- d[k] = v by a comprehension -/
def DSetX (K : PySem.W.Frag) (w : World) (H : Hp) (a : Addr) (y v : V) (P : Hp → Prop) : Prop :=
  (∃ kvs k, y = kV k ∧ H a = some (.dK kvs) ∧ kvs.length < sizeLine ∧ P (upd H a (.dK (putK kvs k v)))) ∨ ∃ xs k b, H a = some (.ext (dφ w a xs)) ∧ (∀ x ∈ xs, NK K H x.2.1 x.1) ∧ y = .ref b ∧ NK K H b k ∧ xs.length < sizeLine ∧ ∀ u, RelV v u → P (upd H a (.ext (dφ w a (storedH xs k b u))))
theorem DSetX.put {K : PySem.W.Frag} {w : World} {H : Hp} {a : Addr} {y v : V} {P : Hp → Prop} (h : DSetX K w H a y v P) : DPutX K w H a y v P := by
  rcases h with ⟨kvs, k, rfl, e, hl, p⟩ | h
  · exact .inl ⟨_, DPut.k e hl, p⟩
  · exact .inr h
end VL
end

section
/-! LA2: dicts whose keys are nested tuples, walked by keys (locked); dict comprehensions of both kinds. -/
namespace VL
open PySem PySem.Spec PyProof.Rows L2

/-- the dict at d, locked, as it stands -/
def Itkn (w : World) (d : Addr) (o : Obj) (xs : List NE) : It :=
  ⟨fun i H => H d = some (.frz o (.ext (dφ w d xs))) ∧ i < xs.length, fun i H x H' => H' = H ∧ ∃ e, xs[i]? = some e ∧ x = .ref e.2.1, fun i H => H d = some (.frz o (.ext (dφ w d xs))) ∧ xs.length ≤ i⟩
section
variable {X : Cx} {pins : List (Addr × Obj)} {σ : L2.St} {H : Hp} {s : Shared} {d : Addr} {o : Obj}
theorem frzN {w : World} {xs : List NE} (I : Inv X pins σ H s) (h : H d = some (.frz o (.ext (dφ w d xs)))) :
    (d == sysModules) = false ∧ s.heap.get? d = some o ∧ o.ExactDict ∧ ∃ (es : Array DictEntry) (ep : Nat), o.data = .dict es ep ∧ es.size = xs.length ∧
      ∀ (i : Nat) (e : NE), xs[i]? = some e → ∃ en : DictEntry, es[i]? = some en ∧ en.key = .ref e.2.1 := by
  obtain ⟨hd, ⟨hs, hz, o', es, ep, ho, hx, hdt, he, _⟩, _⟩ := I.hok d _ h
  rw [hd] at ho
  cases ho
  refine ⟨hs, hd, hx, es, ep, hdt, by rw [← Array.length_toList, he, List.length_map], fun i e hi => ?_⟩
  have q : es.toList[i]? = some (⟨NestedKey.hash w e.1, .ref e.2.1, e.2.2⟩ : DictEntry) := by rw [he, List.getElem?_map, hi]; rfl
  rw [Array.getElem?_toList] at q
  exact ⟨_, q, rfl⟩
end
section
variable {P : Program} {w : World} {K : PySem.W.Frag} {tg : Expr} {d : Addr} {o : Obj} {es : Array DictEntry} {ep : Nat}
theorem turn_keysN {xs : List NE} (it : Addr) (hod : o.data = .dict es ep) : Turn P w K tg (Itkn w d o xs) [it] it (fun i h => h.IsKeyIter it d i xs.length ep) where
  mem := by simp
  obj := fun i h st b hb => by
    have e : b = it := by simpa using hb
    subst e
    obtain ⟨oi, e, c, dd⟩ := st
    exact ⟨oi, e, fun v z => by rw [dd] at z; cases z⟩
  keep := fun i h h' st k => st.at fun oi e => k it (by simp) oi e
  item := by
    intro X hP hw hK hc i pins s σ H E I hf st hg
    subst hP hw hK
    obtain ⟨hd, hi⟩ := hg
    obtain ⟨f0, f1, f2, f3, f4, f5⟩ := hf it (by simp)
    obtain ⟨hs, hgd, hx, es', ep', hdt, hsz, ent⟩ := frzN I hd
    obtain ⟨rfl, rfl⟩ := dict_ep hod hdt
    have hkv : xs[i]? = some xs[i] := List.getElem?_eq_getElem hi
    obtain ⟨en, hen, hkey⟩ := ent i _ hkv
    refine next_key_item st hgd hdt hsz hen fun h' st' sb => ?_
    have I1 : Inv X pins σ H { s with heap := h' } := I.turned (t' := s.toks) (fun b ob hb e => (sb.2 b hb).trans e) f0 f1 f3 f4 f5
    obtain ⟨oi, e, c, dd⟩ := id st'
    exact ⟨en.key, rfl, go_of (s := { s with heap := h' }) e c dd (by decide) ⟨.ref xs[i].2.1, H, I1, hkey, ⟨rfl, xs[i], hkv, rfl⟩, st', fun b hb => (hf b hb).1⟩⟩
  done := by
    intro X hP hw hK hc i pins s σ H E I hf st hg
    subst hP hw hK
    obtain ⟨hd, hi⟩ := hg
    obtain ⟨f0, f1, f2, f3, f4, f5⟩ := hf it (by simp)
    obtain ⟨hs, hgd, hx, es', ep', hdt, hsz, ent⟩ := frzN I hd
    obtain ⟨rfl, rfl⟩ := dict_ep hod hdt
    exact next_key_end (I.ok.hd hc) st hgd hdt hsz hi fun h' eb => ⟨rfl, I.turned (t' := s.toks) (fun b ob hb e => eb b ob hb e) f0 f1 f3 f4 f5⟩
  self := fun A i s Q E st h => by
    refine wpAny_pyIter_slot st.typeIs F.slot_dict_keyiterator_iter (wpAny_call_entry F.slot_dict_keyiterator_iter st.typeIs F.entry_dict_keyiterator_iter ?_ (F.args_dict_keyiterator_iter_1 _))
    show wpAny _ _ (ret (.ref it)) _ _ s
    exact wpAny_pure ⟨_, rfl, "dict_keyiterator", _, st.typeIs, F.slot_dict_keyiterator_next.lookup, h⟩
end
/-- for k in d, d a dict of either kind (tLock, or by the caller) -/
def iKeysX (w : World) (td : TE) : TI := fun σ H R => td σ H fun x H1 => ∃ d o, x = .ref d ∧ ((∃ kvs, H1 d = some (.frz o (.dK kvs)) ∧ R (Itk d o kvs) H1) ∨ ∃ xs, H1 d = some (.frz o (.ext (dφ w d xs))) ∧ R (Itkn w d o xs) H1)
theorem pi_keysX {X : Cx} {tg e : Expr} {td : TE} {w : World} (hw : X.w = w) (he : PE X e td) : PI X tg e (iKeysX w td) := by
  subst hw
  refine ⟨fun pins s σ H R I h => ?_⟩
  refine thn (he.run pins s σ H _ I h) fun u s1 ⟨x, H1, I1, rx, d, o, ex, q⟩ => ?_
  subst ex
  obtain rfl : u = Value.ref d := rx
  rcases q with ⟨kvs, hd, q⟩ | ⟨xs, hd, q⟩
  · obtain ⟨hs, hgd, hx, es, ep, vs, hdt, hsz, kv, hm⟩ := I1.frzK hd
    refine iter_keys hs hgd hx hdt (pi_one (tk := s1.toks) I1 _ (turn_keys _ hdt) ⟨_, Heap.get?_push_size _ rfl, rfl, ?_⟩ q)
    rw [hsz] <;> rfl
  · obtain ⟨hs, hgd, hx, es, ep, hdt, hsz, ent⟩ := frzN I1 hd
    refine iter_keys hs hgd hx hdt (pi_one (tk := s1.toks) I1 _ (turn_keysN _ hdt) ⟨_, Heap.get?_push_size _ rfl, rfl, ?_⟩ q)
    rw [hsz] <;> rfl

/-! ### dict comprehensions -/
theorem dx_dictSet {X : Cx} {pins : List (Addr × Obj)} {σ : L2.St} {H : Hp} {s : Shared} {a : Addr} {y v : V} {u r : Value} {E : Value → Shared → Prop} {P : Hp → Prop} {Q : Unit → Shared → Prop} (hu : X.A.units + 64 < cLine) (I : Inv X pins σ H s) (g : DSetX X.K X.w H a y v P) (ry : RelV y u) (rv : RelV v r) (h : ∀ H' s', P H' → Inv X pins σ H' s' → Q () s') :
    wpAny (model X.prog X.w) X.A (dictSet a u r) Q E s := by
  rcases g with ⟨kvs, k, rfl, e, hl, p⟩ | ⟨xs, k, b, e, he, ey, eb, hl, p⟩
  · exact d_dictSet I e hl ry rv fun s' I' => h _ s' p I'
  · subst ey
    cases (show u = Value.ref b from ry)
    obtain ⟨hd, z, dd⟩ := dn_rd I ⟨.inl e, he⟩
    refine wpAny_dictSet_heap (hsz := z) (show X.A.units + 8 < cLine by omega) (nk_is I eb) dd fun h' dd' hs => h _ _ (p r rv) ?_
    obtain ⟨q, es, ep, hq, h2, h3, h4, _, h5⟩ := dd'
    exact d_write I (by rw [e]; exact True.intro) hs ⟨q, hq⟩ (dφ_ok ⟨hd, by have := length_storedH (xs := xs) (k := k) (b := b) (u := r); omega, q, es, ep, hq, h2, h3, h4, h5⟩)
/-- the new dict; b: its keys will be tuples -/
def dNew (w : World) (b : Bool) (D : Addr) : HO := if b then .ext (dφ w D []) else .dK []
section
variable {X : Cx}
def tDcX (K : PySem.W.Frag) (w : World) (b : Bool) (wi : TI) (g : TG) (tt : TT) (tk tv : TE) (vs : List Nat) : TE := fun σ H Q => wi σ H fun J H1 => ∀ D, H1 D = none → (D == sysModules) = false → ∃ W : Nat → Nat → Hp → Prop, (∃ m, W 0 m (upd H1 D (dNew w b D))) ∧ ∀ i m H, W i m H →
  (J.stop i H ∧ Q (.ref D) H) ∨ (J.go i H ∧ ∃ Nx : Hp → Prop, (∀ H', Nx H' → ∃ m', m' < m ∧ W (i + 1) m' H') ∧ ∀ x H', J.yld i H x H' → g x (wipe σ vs) H' fun σ2 H2 => wipe σ2 vs = wipe σ vs ∧ tt σ2 H2 fun bb H3 =>
    if bb = true then tk σ2 H3 fun y H4 => tv σ2 H4 fun z H5 => DSetX K w H5 D y z Nx else Nx H3)
theorem dNew_ok {b : Bool} {H : Hp} {h : Heap} (hb : sysModules < h.objs.size) : ObjOk X.prog X.w H (h.push { cls := .type "dict", data := .dict #[] }) h.objs.size (dNew X.w b h.objs.size) := by
  cases b with
  | false => exact dk_empty h hb
  | true => exact dφ_ok ⟨beq_eq_false_iff_ne.mpr (Ne.symm (Nat.ne_of_lt hb)), Nat.zero_le _, _, #[], 0, Heap.get?_push_size _ rfl, ⟨rfl, rfl, rfl⟩, rfl, rfl, List.nodup_nil⟩
theorem dcX_core {pins : List (Addr × Obj)} {s : Shared} {σ : L2.St} {H : Hp} {Q : VK} {kx vx tg iter : Expr} {ifs : List Expr} {scope : Scope} {own : List (Str × Nat)} {pos pos' : Pos} {wi : TI} {g : TG} {tt : TT} {tk tv : TE} {use : Option (Value → Sem Unit)} {Qf : Value → Shared → Prop} {b0 : Bool}
    (hu : X.A.units + 64 < cLine) (hc : X.calm = true) (hN : X.N.Nodup) (I : Inv X pins σ H s) (hi : PI X tg iter wi) (ok : BlkOk X.N X.env.scope scope own)
    (hg : ∀ (s : Shared) (H : Hp) (C : Addr) (cl : List (Str × Addr)) (fp : List Addr), PG (X.blk s H scope (compEnvC scope cl C X.env) fp) tg g) (ht : ∀ (s : Shared) (H : Hp) (C : Addr) (cl : List (Str × Addr)) (fp : List Addr), PTs (X.blk s H scope (compEnvC scope cl C X.env) fp) ifs tt)
    (hk : ∀ (s : Shared) (H : Hp) (C : Addr) (cl : List (Str × Addr)) (fp : List Addr), PE (X.blk s H scope (compEnvC scope cl C X.env) fp) kx tk)
    (he : ∀ (s : Shared) (H : Hp) (C : Addr) (cl : List (Str × Addr)) (fp : List Addr), PE (X.blk s H scope (compEnvC scope cl C X.env) fp) vx tv) (hs : ∀ x, foldedSetIterable iter X.env x = pure x)
    (h : tDcX X.K X.w b0 wi g tt tk tv (own.map (·.2)) σ H Q)
    (hRR : ∀ D C s' m H', Inv X pins σ H' s' → Q (.ref D) H' → s'.heap.Ns C m → FpOk X pins H' C → compPost (model X.prog X.w) X.A X.xe use Qf (.ref D) C (.ok .next) s') :
    wpAny (model X.prog X.w) X.A (comprehension (.DictComp kx vx [⟨tg, iter, ifs, 0⟩] scope pos) scope X.env pos' newDict false (eval iter X.env) use) Qf X.xe s := by
  have hfree : ∀ y ∈ scope.names, y.2 = .free → ∃ c, X.env.cells.lookup y.1 = some c := fun y hy e => by
    rcases ok.free y hy e with k | k
    · exact I.ok.has _ (.inl k)
    · exact I.ok.has _ (.inr k)
  refine wpAny_comprehension_free (use := use) rfl hs (closure_ok hfree) ok.kind (fun y hy e => by rw [ok.uniq y hy, e])
    (thn (hi.run pins s σ H _ I h) fun xv s1 hx => thn hx fun itv s2 h2 => ?_)
  obtain ⟨it, fp, tn, J, H2, e, I2, T, st2, f2, q⟩ := h2
  subst e
  refine wpAny_newObj_type (newEnv_comp ?_)
  generalize hD : s2.heap.objs.size = D
  have hDn : H2 D = none := I2.hok.fresh (Nat.le_of_eq hD)
  obtain ⟨W, ⟨m0, w0⟩, turn⟩ := q D hDn (beq_eq_false_iff_ne.mpr (Ne.symm (Nat.ne_of_lt (hD ▸ I2.big))))
  generalize hs3 : ({ s2 with heap := s2.heap.push { cls := .type "dict", data := .dict #[] } } : Shared) = s3
  have I3 : Inv X pins σ (upd H2 D (dNew X.w b0 D)) s3 := by
    rw [← hs3]
    refine I2.laid (t' := s2.toks) (fun b o e => Heap.get?_push_of_some _ e) (Nat.le_of_eq hD) ?_
    rw [← hD]
    exact dNew_ok I2.big
  have h3 : s3.heap = s2.heap.push { cls := .type "dict", data := .dict #[] } := by rw [← hs3]
  have f3 : ∀ b ∈ fp, FpOk X pins (upd H2 D (dNew X.w b0 D)) b ∧ b < s3.heap.objs.size := fun b hb => by
    obtain ⟨o, e, _⟩ := T.obj _ _ st2 b hb
    have hlt := Heap.lt_size e
    refine ⟨⟨?_, (f2 b hb).2⟩, by rw [h3, Heap.size_push]; exact Nat.lt_succ_of_lt hlt⟩
    rw [upd_ne (by rw [← hD]; exact Nat.ne_of_lt hlt)]
    exact (f2 b hb).1
  have st3 : tn 0 s3.heap := T.keep _ _ _ st2 fun b _ o e => by rw [h3]; exact Heap.get?_push_of_some _ e
  have I4 := block_start I3 ok hN f3
  have pg := hg s3 (upd H2 D (dNew X.w b0 D)) s3.heap.objs.size (cellsFrom (s3.heap.objs.size + 1) scope.names (cloFrom X.env.cells scope.names [])) fp
  have pt := ht s3 (upd H2 D (dNew X.w b0 D)) s3.heap.objs.size (cellsFrom (s3.heap.objs.size + 1) scope.names (cloFrom X.env.cells scope.names [])) fp
  have pk := hk s3 (upd H2 D (dNew X.w b0 D)) s3.heap.objs.size (cellsFrom (s3.heap.objs.size + 1) scope.names (cloFrom X.env.cells scope.names [])) fp
  have pe := he s3 (upd H2 D (dNew X.w b0 D)) s3.heap.objs.size (cellsFrom (s3.heap.objs.size + 1) scope.names (cloFrom X.env.cells scope.names [])) fp
  show codeAny _ _ (.compStart (.DictComp kx vx [⟨tg, iter, ifs, 0⟩] scope pos) 0 (.ref it) (.ref D) (compEnvC scope (cellsFrom (s3.heap.objs.size + 1) scope.names (cloFrom X.env.cells scope.names [])) s3.heap.objs.size X.env)) (compPost (model X.prog X.w) X.A X.xe use Qf (.ref D) s3.heap.objs.size) { s3 with heap := pushCells (s3.heap.push { cls := .type "dict", data := .dict #[] }) scope.names }
  have nfp : ∀ b ∈ fp, (upd H2 D (dNew X.w b0 D)) b = none := fun b hb => (f3 b hb).1.1
  generalize hce : compEnvC scope (cellsFrom (s3.heap.objs.size + 1) scope.names (cloFrom X.env.cells scope.names [])) s3.heap.objs.size X.env = ce at I4 pg pt pk pe ⊢
  have cL : ce.locals = s3.heap.objs.size := by subst hce; rfl
  generalize hH3 : upd H2 D (dNew X.w b0 D) = H3 at I3 I4 pg pt pk pe w0 nfp f3
  generalize hs4 : ({ s3 with heap := pushCells (s3.heap.push { cls := .type "dict", data := .dict #[] }) scope.names } : Shared) = s4 at I4 ⊢
  have st4 : tn 0 s4.heap := T.keep _ _ _ st3 fun b _ o e => by rw [← hs4]; exact pushCells_keeps _ _ _ _ (Heap.get?_push_of_some _ e)
  have stat : ∀ {σ' : L2.St} {H' : Hp} {s' : Shared}, Inv (X.blk s3 H3 scope ce fp) [] σ' H' s' → (∀ b ∈ fp, H' b = none) → ∀ b ∈ fp, FpOk (X.blk s3 H3 scope ce fp) [] H' b := fun {σ' H' s'} I' hn b hb =>
    ⟨hn b hb, (I'.ok.exf b hb).1, I'.ok.exfs b hb, .inl hb, fun x c e => (I'.ok.exf b hb).2 x c e, fun p hp => absurd (show p ∈ ([] : List (Addr × Obj)) ++ [] from hp) (by simp)⟩
  have loop : codeAny (model X.prog X.w) X.A (.compLoop (.DictComp kx vx [⟨tg, iter, ifs, 0⟩] scope pos) 0 (.ref it) (.ref D) ce) (compPost (model X.prog X.w) X.A X.xe use Qf (.ref D) s3.heap.objs.size) s4 := by
    refine compLoop_anyD (fun n s' => ∃ i H', Inv (X.blk s3 H3 scope ce fp) [] (wipe σ (own.map (·.2))) H' s' ∧ tn i s'.heap ∧ (∀ b ∈ fp, H' b = none) ∧ W i n H') ?_ m0 ⟨0, H3, I4, st4, nfp, w0⟩
    rintro n s5 ⟨i, H5, I5, st5, n5, w5⟩
    rcases turn i n H5 w5 with ⟨stop, qq⟩ | ⟨go, Nx, hNx, step⟩
    · refine thnF (T.done (X.blk s3 H3 scope ce fp) rfl rfl rfl hc i [] s5 _ H5 (fun _ _ => False) I5 (stat I5 n5) st5 stop) fun r s6 ⟨hr, I6⟩ => ?_
      subst hr
      have I7 : Inv X pins σ H5 s6 := I3.call' (ch := fp) I6.os I6.base I6.hok I6.bare fun b hb => ⟨(f3 b hb).1.2.2.2.1, (f3 b hb).1.2.1, (f3 b hb).1.2.2.2.2.1, (f3 b hb).1.2.2.2.2.2⟩
      have nC : H5 s3.heap.objs.size = none := by
        have z : H5 ce.locals = none := I6.free
        rw [cL] at z
        exact z
      obtain ⟨m, hn, _⟩ := I6.loc
      have hn : s6.heap.Ns ce.locals m := hn
      rw [cL] at hn
      exact hRR D s3.heap.objs.size s6 m H5 I7 qq hn (I3.fpOk (Nat.le_refl _) nC)
    · refine thnF (T.item (X.blk s3 H3 scope ce fp) rfl rfl rfl hc i [] s5 _ H5 (fun _ _ => False) I5 (stat I5 n5) st5 go) fun r s6 ⟨u, hr, h6⟩ => ?_
      subst hr
      refine thnF h6 fun _ s7 ⟨x, H7, I7, r7, y7, st7, n7⟩ => ?_
      have I7' := I7.pinned (stat I7 n7) (T.obj _ _ st7)
      refine thnF (pg.run _ s7 _ H7 x u _ I7' r7 (step x H7 y7)) fun _ s8 ⟨σ8, H8, I8, hw8, q8⟩ => ?_
      refine thnF (pt.run _ s8 σ8 H8 _ I8 q8) fun b s9 ⟨H9, I9, q9⟩ => ?_
      have fin : ∀ {s' : Shared} {H' : Hp}, Inv (X.blk s3 H3 scope ce fp) ([] ++ pinsAt fp s7.heap) σ8 H' s' → Nx H' → ∃ m, m < n ∧ ∃ i H', Inv (X.blk s3 H3 scope ce fp) [] (wipe σ (own.map (·.2))) H' s' ∧ tn i s'.heap ∧ (∀ b ∈ fp, H' b = none) ∧ W i m H' := fun {s' H'} I' nx => by
        obtain ⟨m', hm, w'⟩ := hNx H' nx
        have pin' : ∀ b ∈ fp, ∀ o, s7.heap.get? b = some o → s'.heap.get? b = some o ∧ H' b = none := fun b hb o e =>
          let z := I'.pin (b, o) (List.mem_append_right _ (List.mem_append_right _ (mem_pinsAt hb e)))
          ⟨z.1, z.2.1⟩
        have hl : (wipe σ (own.map (·.2))).length = σ8.length := by rw [← hw8, wipe_length]
        refine ⟨m', hm, i + 1, H', (I'.unpinned (pins := [])).weak hl (fun j v e => ?_), T.keep _ _ _ st7 fun b hb o e => (pin' b hb o e).1, fun b hb => ?_, w'⟩
        · rw [← hw8] at e
          exact (wipe_some e).1
        · obtain ⟨o, e, _⟩ := T.obj _ _ st7 b hb
          exact (pin' b hb o e).2
      cases b with
      | false =>
        simp only [Bool.false_eq_true, if_false] at q9 ⊢
        exact fin I9 q9
      | true =>
        simp only [if_true] at q9 ⊢
        refine thnF (pk.run _ s9 σ8 H9 _ I9 q9) fun z s10 ⟨yk, H10, I10, r10, q10⟩ => ?_
        refine thnF (pe.run _ s10 σ8 H10 _ I10 q10) fun z2 s11 ⟨yv, H11, I11, r11, nx⟩ => ?_
        exact dx_dictSet (X := X.blk s3 H3 scope ce fp) hu I11 nx r10 r11 fun H12 s12 p12 I12 => fin I12 p12
  exact codeAny_compStart_dict loop (T.self X.A 0 _ _ _ st4 loop)
theorem pe_dcX {K : PySem.W.Frag} {w : World} {b : Bool} {kx vx tg iter : Expr} {ifs : List Expr} {scope : Scope} {own : List (Str × Nat)} {pos : Pos} {wi : TI} {g : TG} {tt : TT} {tk tv : TE} (hK : X.K = K) (hw : X.w = w) (hu : X.A.units + 64 < cLine) (hc : X.calm = true) (hN : X.N.Nodup) (hi : PI X tg iter wi) (ok : BlkOk X.N X.env.scope scope own)
    (hg : ∀ (s : Shared) (H : Hp) (C : Addr) (cl : List (Str × Addr)) (fp : List Addr), PG (X.blk s H scope (compEnvC scope cl C X.env) fp) tg g) (ht : ∀ (s : Shared) (H : Hp) (C : Addr) (cl : List (Str × Addr)) (fp : List Addr), PTs (X.blk s H scope (compEnvC scope cl C X.env) fp) ifs tt)
    (hk : ∀ (s : Shared) (H : Hp) (C : Addr) (cl : List (Str × Addr)) (fp : List Addr), PE (X.blk s H scope (compEnvC scope cl C X.env) fp) kx tk)
    (he : ∀ (s : Shared) (H : Hp) (C : Addr) (cl : List (Str × Addr)) (fp : List Addr), PE (X.blk s H scope (compEnvC scope cl C X.env) fp) vx tv) (hs : ∀ x, foldedSetIterable iter X.env x = pure x := by intro _; rfl) :
    PE X (.DictComp kx vx [⟨tg, iter, ifs, 0⟩] scope pos) (tDcX K w b wi g tt tk tv (own.map (·.2))) := by
  subst hK hw
  refine ⟨fun pins s σ H Q I h => ?_⟩
  rw [arm_eval_DictComp]
  refine dcX_core hu hc hN I hi ok hg ht hk he hs h fun D C s' m H' I' q hn f => ⟨m, hn, fun h'' sb => ?_⟩
  obtain ⟨f0, f1, f2, f3, f4, f5⟩ := f
  exact ⟨.ref D, H', I'.turned (t' := s'.toks) (fun b o hb e => (sb.2 b hb).trans e) f0 f1 f3 f4 f5, rfl, q⟩
end
/-! ### displays -/
def rPuts (K : PySem.W.Frag) (w : World) (D : Addr) : List (V × V) → Hp → (Hp → Prop) → Prop
  | [], H, P => P H
  | (y, z) :: ps, H, P => DSetX K w H D y z fun H' => rPuts K w D ps H' P
def tDispX (K : PySem.W.Frag) (w : World) (b : Bool) (trs : List (TE × TE)) : TE := fun σ H Q => ∀ p, H p = none → (p == sysModules) = false → tPairs trs σ (upd H p (dNew w b p)) fun ps H2 => rPuts K w p ps H2 (Q (.ref p))
section
variable {X : Cx}
theorem storeX {pins : List (Addr × Obj)} {σ : L2.St} {D : Addr} {E : Value → Shared → Prop} {P : Hp → Prop} (hu : X.A.units + 64 < cLine) : ∀ (ps : List (V × V)) (vs : List (Value × Value)) (s : Shared) (H : Hp) (Q : PUnit → Shared → Prop), Inv X pins σ H s → VV ps vs → rPuts X.K X.w D ps H P →
    (∀ H' s', P H' → Inv X pins σ H' s' → Q PUnit.unit s') →
    wpAny (model X.prog X.w) X.A (forIn vs PUnit.unit fun (x : Value × Value) (_ : PUnit) => (do dictSet D x.1 x.2; pure (ForInStep.yield PUnit.unit) : Sem (ForInStep PUnit))) Q E s
  | [], _, s, H, Q, I, r, h, q => by
    cases r
    rw [List.forIn_nil]
    exact wpAny_pure (q H s h I)
  | (y, z) :: ps, _, s, H, Q, I, r, h, q => by
    cases r with
    | cons r1 r2 =>
      rw [List.forIn_cons]
      exact wpAny_bind (wpAny_bind (dx_dictSet hu I h r1.1 r1.2 fun H' s' h' I' => wpAny_pure (storeX hu ps _ s' H' Q I' r2 h' q)))
theorem pe_dispX {K : PySem.W.Frag} {w : World} {b : Bool} {pos : Pos} {keys : List (Option Expr)} {values : List Expr} {trs : List (TE × TE)} (hK : X.K = K) (hw : X.w = w) (hu : X.A.units + 64 < cLine) (h : PPs X pos keys values trs) (hall : keys.all (·.isSome) = true) (hl : keys.length = values.length) (h0 : keys ≠ [])
    (h15 : keys.length ≤ 15) : PE X (.Dict keys values pos) (tDispX K w b trs) := by
  subst hK hw
  refine ⟨fun pins s σ H Q I q => ?_⟩
  have hn := I.hok.fresh (Nat.le_refl s.heap.objs.size)
  have I1 := I.laid (a := s.heap.objs.size) (o := dNew X.w b s.heap.objs.size) (h' := s.heap.push { cls := .type "dict", data := .dict #[] }) (t' := s.toks) (fun _ _ q => Heap.get?_push_of_some _ q) (Nat.le_refl _) (dNew_ok I.big)
  have hp := pairTrees_length keys values X.env pos hall hl
  have hne : pairTrees keys values X.env pos ≠ [] := by
    intro he
    rw [he] at hp
    exact h0 (List.length_eq_zero_iff.mp hp.symm)
  rw [arm_eval_Dict, zip_pairTrees keys values X.env pos hall hl, dictDisplay_pairs _ hne (by omega)]
  refine wpAny_bind (wpAny_standAt (wpAny_bind ?_))
  unfold subDict
  refine wpAny_bind (wpAny_alloc ?_)
  refine wpAny_bind (wpAny_holding ?_)
  rw [if_pos (by omega)]
  refine wpAny_bind (thn (h.run pins _ σ _ _ I1 (q _ hn (beq_eq_false_iff_ne.mpr (Ne.symm (Nat.ne_of_lt I.big))))) fun ws s2 ⟨ps, H2, I2, rel, q2⟩ => ?_)
  refine wpAny_holding ?_
  exact wpAny_bind (storeX hu ps ws s2 H2 _ I2 rel q2 fun H' s' h' I' => wpAny_pure (wpAny_pure (wpAny_pure ⟨.ref s.heap.objs.size, H', I', rfl, h'⟩)))
end
section
variable {X : Cx}
/-- name = {k: v for ..} on one line, the name a local -/
theorem ps_setDcX {K : PySem.W.Frag} {w : World} {b : Bool} {i : Nat} {y : Str} {py : Pos} {kx vx tg iter : Expr} {ifs : List Expr} {scope : Scope} {own : List (Str × Nat)} {pos spos : Pos} {wi : TI} {g : TG} {tt : TT} {tk tv : TE} (hK : X.K = K) (hw : X.w = w) (hu : X.A.units + 64 < cLine) (hc : X.calm = true) (hN : X.N.Nodup)
    (hy : X.N[i]? = some y) (hyl : X.env.scope.names.lookup y = some .local)
    (hsw : swapsWith (.DictComp kx vx [⟨tg, iter, ifs, 0⟩] scope pos) (some (.Name y py)) spos.line X.env = pure true) (hi : PI X tg iter wi) (ok : BlkOk X.N X.env.scope scope own)
    (hg : ∀ (s : Shared) (H : Hp) (C : Addr) (cl : List (Str × Addr)) (fp : List Addr), PG (X.blk s H scope (compEnvC scope cl C X.env) fp) tg g) (ht : ∀ (s : Shared) (H : Hp) (C : Addr) (cl : List (Str × Addr)) (fp : List Addr), PTs (X.blk s H scope (compEnvC scope cl C X.env) fp) ifs tt)
    (hk : ∀ (s : Shared) (H : Hp) (C : Addr) (cl : List (Str × Addr)) (fp : List Addr), PE (X.blk s H scope (compEnvC scope cl C X.env) fp) kx tk)
    (he : ∀ (s : Shared) (H : Hp) (C : Addr) (cl : List (Str × Addr)) (fp : List Addr), PE (X.blk s H scope (compEnvC scope cl C X.env) fp) vx tv) (hs : ∀ x, foldedSetIterable iter X.env x = pure x := by intro _; rfl) :
    PS X (.Assign [.Name y py] (.DictComp kx vx [⟨tg, iter, ifs, 0⟩] scope pos) spos) (tAsg (tDcX K w b wi g tt tk tv (own.map (·.2))) (gName i)) := by
  subst hK hw
  refine ⟨fun pins s σ H D I h => ?_⟩
  rw [exec_Assign_Name_used _ _ _ _ hsw]
  refine wpAny_bind (wpAny_standAt (wpAny_bind ?_))
  show wpAny _ X.A (do let _ ← comprehension (.DictComp kx vx [⟨tg, iter, ifs, 0⟩] scope pos) scope X.env (firstIterPos [⟨tg, iter, ifs, 0⟩] pos) newDict false (eval iter X.env) (some (assign (.Name y py) X.env))) _ _ s
  have h : tDcX X.K X.w b wi g tt tk tv (own.map (·.2)) σ H (fun x H1 => gName i x σ H1 D.nx) := h
  refine wpAny_bind (thn (dcX_core (Qf := fun _ s' => SP X pins D .next s') hu hc hN I hi ok hg ht hk he hs h fun L C s' m H' I' q hn f => ?_) fun _ s' hq => wpAny_pure (wpAny_pure hq))
  show wpAny _ _ (assign (.Name y py) X.env (.ref L)) _ _ _
  refine wpAny_assign_Name (store_ok2 (v := V.ref L) I' hN hy (.inl hyl) rfl (fun s2 I2 ⟨a, sb, ha⟩ => ?_) (.inr hyl))
  obtain ⟨f0, f1, f2, f3, f4, f5⟩ := f
  have haC : C ≠ a := by
    rcases ha with z | z
    · rw [z]; exact f1
    · exact fun e => f4 y a z e.symm
  refine ⟨m, hn.sameBut sb haC, fun h3 sb3 => ?_⟩
  exact ⟨_, H', I2.turned (t' := s2.toks) (fun b o hb e => (sb3.2 b hb).trans e) f0 f1 f3 f4 f5, q⟩
theorem sw_trueD {kx vx : Expr} {gs : List Comprehension} {scope : Scope} {pos py : Pos} {y : Str} {l : Nat} {env : Env} (hk : env.scope.kind = .function) (hy : env.scope.names.lookup y = some .local) (hl : (py.line == pos.line) = true)
    (ha : (scope.names.any fun (n, k) => n == y && (k == .local || k == .cell)) = false) : swapsWith (.DictComp kx vx gs scope pos) (some (.Name y py)) l env = pure true := by
  have ky : env.kindOf y = some .local := hy
  have hb : env.blockKind = .function := by unfold Env.blockKind; rw [hk]; rfl
  unfold swapsWith
  simp only [hb, ky, ha, Expr.pos, hl]
  rfl
end
end VL
end

section
/-! VA: a value layer over the hand layer: data (D), what denotes it (Den), worlds (Wd), cells (Cell), readings by functions of cells (VT, VB, VA, VN). -/
namespace VL
open PySem PySem.Spec PyProof.Rows L2

/-- the known part of the heap, and the world -/
structure KW where
  k : PySem.W.Frag
  w : World
  /-- classes by number -/
  cls : Nat → Addr
instance : Coe KW PySem.W.Frag := ⟨KW.k⟩
abbrev kw (K : PySem.W.Frag) (w : World) (cl : Nat → Addr) : KW := ⟨K, w, cl⟩
inductive D where
  | non | bl (b : Bool) | int (i : Int) | str (x : Str)
  | tup (ds : List D) | lst (ds : List D)
  /-- a list that is only read (the script, a list of the top) -/
  | scr (ds : List D)
  /-- an instance of the class at C -/
  | ins (C : Addr) (ns : List Str) (ds : List D)
  /-- a dict; b: its keys are tuples (else ints and texts) -/
  | dct (b : Bool) (ks ds : List D)
mutual
/-- data as a key -/
def D.nk : D → Option NestedKey
  | .non => some .none
  | .bl b => some (.num (if b then 1 else 0))
  | .int i => some (.num i)
  | .str x => some (.text x)
  | .tup ds => (D.nkL ds).map .tup
  | .lst _ => none
  | .scr _ => none
  | .ins _ _ _ => none
  | .dct _ _ _ => none
def D.nkL : List D → Option (List NestedKey)
  | [] => some []
  | d :: ds => match D.nk d with
    | some k => (D.nkL ds).map (k :: ·)
    | none => none
end
/-- .. in a dict of the kind b -/
def D.kk : Bool → D → Option NestedKey
  | false, .int i => some (.num i)
  | false, .str x => some (.text x)
  | true, .tup ds => match (D.nkL ds).map NestedKey.tup with
    | some k => if k.depth ≤ 8 then some k else none
    | none => none
  | _, _ => none
def kD : L2.Key → D
  | .inl i => .int i
  | .inr x => .str x

mutual
inductive Den (K : KW) (H : Hp) : V → D → Prop
  | non : Den K H .non .non
  | bl (b : Bool) : Den K H (.bl b) (.bl b)
  | int (i : Int) : Den K H (.int i) (.int i)
  | str (x : Str) : Den K H (.str x) (.str x)
  | tup {a : Addr} {xs : List V} {ds : List D} : SqT K H a xs → DenL K H xs ds → Den K H (.ref a) (.tup ds)
  | lst {a : Addr} {xs : List V} {ds : List D} : H a = some (.lst xs) → DenL K H xs ds → Den K H (.ref a) (.lst ds)
  | scr {a : Addr} {xs : List V} {ds : List D} : SqL K H a xs → DenL K H xs ds → Den K H (.ref a) (.scr ds)
  | ins {a C dx : Addr} {fs : List (Str × V)} {ns : List Str} {ds : List D} : H a = some (.ins C dx fs) → fs.map (·.1) = ns → DenL K H (fs.map (·.2)) ds → Den K H (.ref a) (.ins C ns ds)
  | dK {a : Addr} {kvs : List (L2.Key × V)} {ks ds : List D} : Rd H a (.dK kvs) → kvs.map (fun p => kD p.1) = ks → DenL K H (kvs.map (·.2)) ds → Den K H (.ref a) (.dct false ks ds)
  | dN {a : Addr} {xs : List NE} {vs : List V} {ks ds : List D} : Rd H a (.ext (dφ K.w a xs)) → DenL K H (xs.map fun x => V.ref x.2.1) ks → ks.map (D.kk true) = xs.map (fun x => some x.1) → Vals vs (xs.map (·.2.2)) → DenL K H vs ds → Den K H (.ref a) (.dct true ks ds)
inductive DenL (K : KW) (H : Hp) : List V → List D → Prop
  | nil : DenL K H [] []
  | cons {v : V} {vs : List V} {d : D} {ds : List D} : Den K H v d → DenL K H vs ds → DenL K H (v :: vs) (d :: ds)
end

section
variable {K : KW} {H H' : Hp}
theorem sqT_same (e : Same H H') {a : Addr} {xs : List V} (h : SqT K H a xs) : SqT K H' a xs := by
  rcases h with (h | ⟨o, h⟩) | h
  · exact .inl (.inl (e _ _ h))
  · exact .inl (.inr ⟨o, e _ _ h⟩)
  · exact .inr h
theorem rd_same (e : Same H H') {a : Addr} {o : HO} (h : Rd H a o) : Rd H' a o := by
  rcases h with h | ⟨q, h⟩
  · exact .inl (e _ _ h)
  · exact .inr ⟨q, e _ _ h⟩
mutual
theorem Den.mono (e : Same H H') : ∀ (d : D) (v : V), Den K H v d → Den K H' v d
  | .non, _, h => by cases h; exact .non
  | .bl b, _, h => by cases h; exact .bl b
  | .int i, _, h => by cases h; exact .int i
  | .str x, _, h => by cases h; exact .str x
  | .tup ds, _, h => by
    cases h with
    | tup h1 h2 => exact .tup (sqT_same e h1) (DenL.mono e ds _ h2)
  | .lst ds, _, h => by
    cases h with
    | lst h1 h2 => exact .lst (e _ _ h1) (DenL.mono e ds _ h2)
  | .scr ds, _, h => by
    cases h with
    | scr h1 h2 => exact .scr (e.seq h1) (DenL.mono e ds _ h2)
  | .ins C ns ds, _, h => by
    cases h with
    | ins h1 h2 h3 => exact .ins (e _ _ h1) h2 (DenL.mono e ds _ h3)
  | .dct false ks ds, _, h => by
    cases h with
    | dK h1 h2 h3 => exact .dK (rd_same e h1) h2 (DenL.mono e ds _ h3)
  | .dct true ks ds, _, h => by
    cases h with
    | dN h1 h2 h3 h4 h5 => exact .dN (rd_same e h1) (DenL.mono e ks _ h2) h3 h4 (DenL.mono e ds _ h5)
theorem DenL.mono (e : Same H H') : ∀ (ds : List D) (vs : List V), DenL K H vs ds → DenL K H' vs ds
  | [], _, h => by cases h; exact .nil
  | d :: ds, _, h => by
    cases h with
    | cons h1 h2 => exact .cons (Den.mono e d _ h1) (DenL.mono e ds _ h2)
end
theorem Den.up {v : V} {d : D} (h : Den K H v d) (e : Same H H') : Den K H' v d := Den.mono e d v h
theorem DenL.up {v : List V} {d : List D} (h : DenL K H v d) (e : Same H H') : DenL K H' v d := DenL.mono e d v h
theorem DenL.length : ∀ {ds : List D} {vs : List V}, DenL K H vs ds → vs.length = ds.length
  | [], _, h => by cases h; rfl
  | d :: ds, _, h => by
    cases h with
    | cons h1 h2 => simp [DenL.length h2]
theorem DenL.append : ∀ {ds es : List D} {vs us : List V}, DenL K H vs ds → DenL K H us es → DenL K H (vs ++ us) (ds ++ es)
  | [], _, _, _, h, g => by cases h; exact g
  | d :: ds, _, _, _, h, g => by
    cases h with
    | cons h1 h2 => exact .cons h1 (DenL.append h2 g)
theorem DenL.take : ∀ {ds : List D} {vs : List V} (n : Nat), DenL K H vs ds → DenL K H (vs.take n) (ds.take n)
  | _, _, 0, _ => by simp; exact .nil
  | [], _, n + 1, h => by cases h; exact .nil
  | d :: ds, _, n + 1, h => by
    cases h with
    | cons h1 h2 => exact .cons h1 (DenL.take n h2)
theorem DenL.drop : ∀ {ds : List D} {vs : List V} (n : Nat), DenL K H vs ds → DenL K H (vs.drop n) (ds.drop n)
  | _, _, 0, h => by simpa using h
  | [], _, n + 1, h => by cases h; exact .nil
  | d :: ds, _, n + 1, h => by
    cases h with
    | cons h1 h2 => exact DenL.drop n h2
theorem DenL.get : ∀ {ds : List D} {vs : List V} {i : Nat} {d : D}, DenL K H vs ds → ds[i]? = some d → ∃ v, vs[i]? = some v ∧ Den K H v d
  | [], _, _, _, h, g => by simp at g
  | d :: ds, _, 0, _, h, g => by
    cases h with
    | cons h1 h2 => simp at g; subst g; exact ⟨_, rfl, h1⟩
  | d :: ds, _, i + 1, e, h, g => by
    cases h with
    | cons h1 h2 =>
      obtain ⟨v, h3, h4⟩ := DenL.get (i := i) (d := e) h2 (by simpa using g)
      exact ⟨v, by simpa using h3, h4⟩
theorem DenL.getV : ∀ {ds : List D} {vs : List V} {i : Nat} {v : V}, DenL K H vs ds → vs[i]? = some v → ∃ d, ds[i]? = some d ∧ Den K H v d
  | [], _, _, _, h, g => by cases h; simp at g
  | d :: ds, _, 0, _, h, g => by
    cases h with
    | cons h1 h2 => simp at g; subst g; exact ⟨_, rfl, h1⟩
  | d :: ds, _, i + 1, e, h, g => by
    cases h with
    | cons h1 h2 =>
      obtain ⟨v, h3, h4⟩ := DenL.getV (i := i) (v := e) h2 (by simpa using g)
      exact ⟨v, by simpa using h3, h4⟩
theorem DenL.set : ∀ {ds : List D} {vs : List V} (i : Nat) {v : V} {d : D}, DenL K H vs ds → Den K H v d → DenL K H (vs.set i v) (ds.set i d)
  | [], _, _, _, _, h, _ => by cases h; exact .nil
  | d :: ds, _, 0, _, _, h, g => by
    cases h with
    | cons h1 h2 => exact .cons g h2
  | d :: ds, _, i + 1, _, _, h, g => by
    cases h with
    | cons h1 h2 => exact .cons h1 (DenL.set i h2 g)
theorem DenL.reverse : ∀ {ds : List D} {vs : List V}, DenL K H vs ds → DenL K H vs.reverse ds.reverse
  | [], _, h => by cases h; exact .nil
  | d :: ds, _, h => by
    cases h with
    | cons h1 h2 => rw [List.reverse_cons, List.reverse_cons]; exact DenL.append (DenL.reverse h2) (.cons h1 .nil)
theorem DenL.dropLast {ds : List D} {vs : List V} (h : DenL K H vs ds) : DenL K H vs.dropLast ds.dropLast := by
  rw [List.dropLast_eq_take, List.dropLast_eq_take, h.length]
  exact DenL.take _ h
theorem DenL.eraseIdx : ∀ {ds : List D} {vs : List V} (i : Nat), DenL K H vs ds → DenL K H (vs.eraseIdx i) (ds.eraseIdx i)
  | [], _, _, h => by cases h; exact .nil
  | d :: ds, _, 0, h => by
    cases h with
    | cons h1 h2 => exact h2
  | d :: ds, _, i + 1, h => by
    cases h with
    | cons h1 h2 => exact .cons h1 (DenL.eraseIdx i h2)
theorem DenL.rep {ds : List D} {vs : List V} (h : DenL K H vs ds) : ∀ n : Nat, DenL K H (List.replicate n vs).flatten (List.replicate n ds).flatten
  | 0 => .nil
  | n + 1 => by
    rw [List.replicate_succ, List.replicate_succ, List.flatten_cons, List.flatten_cons]
    exact DenL.append h (DenL.rep h n)
theorem DenL.ints : ∀ {ns : List Int} {vs : List V}, DenL K H vs (ns.map D.int) → vs = ns.map V.int
  | [], _, h => by cases h; rfl
  | n :: ns, _, h => by
    cases h with
    | cons h1 h2 => cases h1; rw [DenL.ints h2]; rfl
theorem DenL.of_ints : ∀ (ns : List Int), DenL K H (ns.map V.int) (ns.map D.int)
  | [] => .nil
  | n :: ns => .cons (.int n) (DenL.of_ints ns)
theorem DenL.strs : ∀ {ns : List Str} {vs : List V}, DenL K H vs (ns.map D.str) → vs = ns.map V.str
  | [], _, h => by cases h; rfl
  | n :: ns, _, h => by
    cases h with
    | cons h1 h2 => cases h1; rw [DenL.strs h2]; rfl
theorem DenL.of_strs : ∀ (ns : List Str), DenL K H (ns.map V.str) (ns.map D.str)
  | [] => .nil
  | n :: ns => .cons (.str n) (DenL.of_strs ns)
end

/-- scalars -/
def D.scal : D → Bool
  | .non => true | .bl _ => true | .int _ => true | .str _ => true | _ => false
def D.toV : D → V
  | .bl b => .bl b | .int i => .int i | .str x => .str x | _ => .non
theorem den_scal {K : KW} {H : Hp} {v : V} {d : D} (h : Den K H v d) (s : d.scal = true) : v = d.toV := by
  cases h <;> first | rfl | (simp [D.scal] at s)
theorem scal_den {K : KW} {H : Hp} {d : D} (s : d.scal = true) : Den K H d.toV d := by
  cases d <;> simp [D.scal] at s
  · exact .non
  · exact .bl _
  · exact .int _
  · exact .str _

/-! ### plain data, for == -/
mutual
def D.py : D → Option PyData
  | .non => some .none | .bl b => some (.bool b) | .int i => some (.int i) | .str x => some (.str x)
  | .tup ds => (D.pyL ds).map .tuple
  | .lst ds => (D.pyL ds).map .list
  | .scr ds => (D.pyL ds).map .list
  | .ins _ _ _ => none
  | .dct _ _ _ => none
def D.pyL : List D → Option (List PyData)
  | [] => some []
  | d :: ds => match D.py d with
    | some p => match D.pyL ds with
      | some ps => some (p :: ps)
      | none => none
    | none => none
end
section
variable {K : KW} {H : Hp}
mutual
theorem Den.dp : ∀ (d : D) (v : V) (p : PyData), Den K H v d → D.py d = some p → Dp K H v p
  | .non, _, _, h, e => by cases h; simp [D.py] at e; subst e; exact .non
  | .bl b, _, _, h, e => by cases h; simp [D.py] at e; subst e; exact .bl b
  | .int i, _, _, h, e => by cases h; simp [D.py] at e; subst e; exact .int i
  | .str x, _, _, h, e => by cases h; simp [D.py] at e; subst e; exact .str x
  | .tup ds, _, _, h, e => by
    cases h with
    | tup h1 h2 =>
      simp only [D.py, Option.map_eq_some_iff] at e
      obtain ⟨ps, e1, e2⟩ := e
      subst e2
      exact .tup h1 (DenL.dp ds _ ps h2 e1)
  | .lst ds, _, _, h, e => by
    cases h with
    | lst h1 h2 =>
      simp only [D.py, Option.map_eq_some_iff] at e
      obtain ⟨ps, e1, e2⟩ := e
      subst e2
      exact .lst (SqL.of h1) (DenL.dp ds _ ps h2 e1)
  | .scr ds, _, _, h, e => by
    cases h with
    | scr h1 h2 =>
      simp only [D.py, Option.map_eq_some_iff] at e
      obtain ⟨ps, e1, e2⟩ := e
      subst e2
      exact .lst h1 (DenL.dp ds _ ps h2 e1)
  | .ins C ns ds, _, _, h, e => by simp [D.py] at e
  | .dct b ks ds, _, _, h, e => by simp [D.py] at e
theorem DenL.dp : ∀ (ds : List D) (vs : List V) (ps : List PyData), DenL K H vs ds → D.pyL ds = some ps → DpAll K H vs ps
  | [], _, _, h, e => by cases h; simp [D.pyL] at e; subst e; exact .nil
  | d :: ds, _, _, h, e => by
    cases h with
    | cons h1 h2 =>
      cases ep : D.py d with
      | none => simp [D.pyL, ep] at e
      | some p =>
        cases eq : D.pyL ds with
        | none => simp [D.pyL, ep, eq] at e
        | some ps =>
          simp [D.pyL, ep, eq] at e
          subst e
          exact .cons (Den.dp d _ p h1 ep) (DenL.dp ds _ ps h2 eq)
end
end

mutual
theorem den_nk {K : KW} {H : Hp} : ∀ (d : D) (v : V) (k : NestedKey), Den K H v d → d.nk = some k → NKey K.k H v k
  | .non, _, _, h, e => by cases h; cases e; exact .non
  | .bl b, _, _, h, e => by cases h; cases e; exact .bl b
  | .int i, _, _, h, e => by cases h; cases e; exact .int i
  | .str x, _, _, h, e => by cases h; cases e; exact .str x
  | .tup ds, _, k, h, e => by
    cases h with
    | tup h1 h2 =>
      simp only [D.nk, Option.map_eq_some_iff] at e
      obtain ⟨ks, e1, rfl⟩ := e
      exact .tup h1 (denL_nk ds _ ks h2 e1)
  | .lst _, _, _, _, e => by cases e
  | .scr _, _, _, _, e => by cases e
  | .ins _ _ _, _, _, _, e => by cases e
  | .dct _ _ _, _, _, _, e => by cases e
theorem denL_nk {K : KW} {H : Hp} : ∀ (ds : List D) (vs : List V) (ks : List NestedKey), DenL K H vs ds → D.nkL ds = some ks → NKeyL K.k H vs ks
  | [], _, _, h, e => by cases h; cases e; exact .nil
  | d :: ds, _, ks, h, e => by
    cases h with
    | cons h1 h2 =>
      cases e1 : D.nk d with
      | none => simp [D.nkL, e1] at e
      | some k =>
        simp only [D.nkL, e1, Option.map_eq_some_iff] at e
        obtain ⟨ks', e2, rfl⟩ := e
        exact .cons (den_nk d _ k h1 e1) (denL_nk ds _ ks' h2 e2)
end
theorem kk_true {d : D} {k : NestedKey} (h : d.kk true = some k) : d.nk = some k ∧ k.depth ≤ 8 ∧ ∃ ds, d = .tup ds := by
  cases d with
  | tup ds =>
    have h' : (match (D.nkL ds).map NestedKey.tup with | some k => if k.depth ≤ 8 then some k else none | none => none) = some k := h
    cases e : (D.nkL ds).map NestedKey.tup with
    | none => rw [e] at h'; cases h'
    | some k0 =>
      rw [e] at h'
      by_cases hd : k0.depth ≤ 8
      · simp only [hd, if_true] at h'
        cases h'
        exact ⟨e, hd, ds, rfl⟩
      · simp only [hd, if_false] at h'
        cases h'
  | _ => cases h
theorem den_kk {K : KW} {H : Hp} {d : D} {v : V} {k : NestedKey} (h : Den K H v d) (e : d.kk true = some k) : ∃ a, v = .ref a ∧ NK K.k H a k := by
  obtain ⟨e1, e2, ds, rfl⟩ := kk_true e
  have := den_nk _ _ _ h e1
  cases h with
  | tup h1 h2 => exact ⟨_, rfl, this, e2⟩

/-! ### worlds -/
/-- H: the abstract heap; F: what is settled; G: F and the lists that stand as they are now -/
structure Wd where
  H : Hp
  G : Hp
  F : Hp
def Wd.at (W : Wd) (b : Bool) : Hp := if b then W.F else W.G
def isTup : HO → Bool
  | .tup _ => true
  | .frz _ (.tup _) => true
  | .ins _ _ _ => true
  | _ => false
/-- what one may write at -/
def ownO : HO → Bool
  | .lst _ => true
  | .dK _ => true
  | .ext _ => true
  | _ => false
theorem ownO_tup {o : HO} (h : ownO o = true) : isTup o = false := by
  cases o <;> first | rfl | (exact absurd h Bool.false_ne_true)
structure WOk (W : Wd) : Prop where
  fg : Same W.F W.G
  gh : Same W.G W.H
  /-- tuples that stand are settled -/
  gt : ∀ a u, W.G a = some u → isTup u = true → W.F a = some u
structure Gr (W W' : Wd) : Prop where
  h : Same W.H W'.H
  g : Same W.G W'.G
  f : Same W.F W'.F
  go : ∀ a o, W.H a = some o → W'.G a = W.G a
  fo : ∀ a o, W.H a = some o → W'.F a = W.F a
theorem Gr.refl (W : Wd) : Gr W W := ⟨Same.refl _, Same.refl _, Same.refl _, fun _ _ _ => rfl, fun _ _ _ => rfl⟩
theorem Gr.trans {W1 W2 W3 : Wd} (a : Gr W1 W2) (b : Gr W2 W3) : Gr W1 W3 :=
  ⟨a.h.trans b.h, a.g.trans b.g, a.f.trans b.f, fun c o h => (b.go c o (a.h c o h)).trans (a.go c o h), fun c o h => (b.fo c o (a.h c o h)).trans (a.fo c o h)⟩
theorem Gr.at {W W' : Wd} (a : Gr W W') (b : Bool) : Same (W.at b) (W'.at b) := by
  cases b
  · exact a.g
  · exact a.f
theorem WOk.fh {W : Wd} (k : WOk W) : Same W.F W.H := k.fg.trans k.gh
theorem WOk.atG {W : Wd} (k : WOk W) (b : Bool) : Same (W.at b) W.G := by
  cases b
  · exact Same.refl _
  · exact k.fg
theorem WOk.atH {W : Wd} (k : WOk W) (b : Bool) : Same (W.at b) W.H := (k.atG b).trans k.gh
theorem WOk.nG {W : Wd} (k : WOk W) {a : Addr} (h : W.H a = none) : W.G a = none := k.gh.free h
theorem WOk.nF {W : Wd} (k : WOk W) {a : Addr} (h : W.H a = none) : W.F a = none := k.fg.free (k.nG h)
/-- a new object that is settled (b) or stands (not b) -/
def Wd.new (W : Wd) (b : Bool) (p : Addr) (o : HO) : Wd := ⟨upd W.H p o, upd W.G p o, if b || isTup o then upd W.F p o else W.F⟩
theorem same_upd {H : Hp} {p : Addr} {o : HO} (h : H p = none) : Same H (upd H p o) := fun a u e => by
  rw [upd_ne (ne_of_none e h)]; exact e
theorem same_upd2 {H H' : Hp} {p : Addr} {o : HO} (e : Same H H') : Same (upd H p o) (upd H' p o) := fun a u q => by
  by_cases h : a = p
  · subst h; rw [upd_same] at q ⊢; exact q
  · rw [upd_ne h] at q ⊢; exact e a u q
theorem new_F {W : Wd} {b : Bool} {p : Addr} {o : HO} : (W.new b p o).F = upd W.F p o ∨ ((W.new b p o).F = W.F ∧ b = false ∧ isTup o = false) := by
  show (if b || isTup o then upd W.F p o else W.F) = _ ∨ (if b || isTup o then upd W.F p o else W.F) = _ ∧ _
  cases b with
  | true => exact .inl rfl
  | false =>
    cases h : isTup o with
    | true => exact .inl rfl
    | false => exact .inr ⟨rfl, rfl, rfl⟩
theorem new_ok {W : Wd} (k : WOk W) {b : Bool} {p : Addr} {o : HO} (h : W.H p = none) : WOk (W.new b p o) := by
  refine ⟨?_, same_upd2 k.gh, fun a xs e ht => ?_⟩
  · rcases new_F (W := W) (b := b) (p := p) (o := o) with q | ⟨q, _⟩
    · rw [q]; exact same_upd2 k.fg
    · rw [q]; exact k.fg.trans (same_upd (k.nG h))
  · have e' : upd W.G p o a = some xs := e
    by_cases ha : a = p
    · subst ha
      rw [upd_same] at e'
      cases e'
      rcases new_F (W := W) (b := b) (p := a) (o := o) with q | ⟨q, _, q3⟩
      · rw [q, upd_same]
      · rw [q3] at ht; cases ht
    · rw [upd_ne ha] at e'
      have := k.gt a xs e' ht
      rcases new_F (W := W) (b := b) (p := p) (o := o) with q | ⟨q, _⟩
      · rw [q, upd_ne ha]; exact this
      · rw [q]; exact this
theorem new_gr {W : Wd} (k : WOk W) {b : Bool} {p : Addr} {o : HO} (h : W.H p = none) : Gr W (W.new b p o) := by
  refine ⟨same_upd h, same_upd (k.nG h), ?_, fun a u e => ?_, fun a u e => ?_⟩
  · rcases new_F (W := W) (b := b) (p := p) (o := o) with q | ⟨q, _⟩
    · rw [q]; exact same_upd (k.nF h)
    · rw [q]; exact Same.refl _
  · exact upd_ne (ne_of_none e h)
  · rcases new_F (W := W) (b := b) (p := p) (o := o) with q | ⟨q, _⟩
    · rw [q]; exact upd_ne (ne_of_none e h)
    · rw [q]
theorem new_at {W : Wd} {b : Bool} {p : Addr} {o : HO} : (W.new b p o).at b = upd (W.at b) p o := by
  cases b <;> rfl
theorem new_self {W : Wd} {b : Bool} {p : Addr} {o : HO} : ((W.new b p o).at b) p = some o := by
  rw [new_at, upd_same]
theorem new_denL {K : KW} {W : Wd} (k : WOk W) {b : Bool} {p : Addr} {o : HO} (h : W.H p = none) {vs : List V} {ds : List D} (hd : DenL K (W.at b) vs ds) : DenL K ((W.new b p o).at b) vs ds :=
  hd.up ((new_gr k h).at b)

/-! ### cells -/
/-- a structure of lists, dicts, instances of one's own and of tuples of such; its leaves are settled -/
inductive T where
  | leaf (d : D)
  | lst (ts : List T)
  | tup (ts : List T)
  /-- a dict of one's own; b: its keys are tuples (else ints and texts) -/
  | dct (b : Bool) (ks : List D) (ts : List T)
  /-- an instance of one's own -/
  | obj (n : Nat) (C : Addr) (ns : List Str) (ts : List T)
mutual
/-- no instance in it -/
def T.plain : T → Bool
  | .leaf _ => true
  | .lst ts => T.plainL ts
  | .tup ts => T.plainL ts
  | .dct _ _ ts => T.plainL ts
  | .obj _ _ _ _ => false
def T.plainL : List T → Bool
  | [] => true
  | t :: ts => T.plain t && T.plainL ts
end
mutual
def T.view : T → D
  | .leaf d => d
  | .lst ts => .lst (T.viewL ts)
  | .tup ts => .tup (T.viewL ts)
  | .dct b ks ts => .dct b ks (T.viewL ts)
  | .obj _ C ns ts => .ins C ns (T.viewL ts)
def T.viewL : List T → List D
  | [] => []
  | t :: ts => T.view t :: T.viewL ts
end
mutual
/-- where its lists stand: as -/
inductive TOk (K : KW) (W0 W : Wd) : V → T → List Addr → Prop
  | leaf {v : V} {d : D} : Den K W.F v d → TOk K W0 W v (.leaf d) []
  | lst {l : Addr} {vs : List V} {ts : List T} {as : List Addr} : W.H l = some (.lst vs) → W.G l = some (.lst vs) → W.F l = none → W0.H l = none → TOkL K W0 W vs ts as → TOk K W0 W (.ref l) (.lst ts) (l :: as)
  | tup {a : Addr} {vs : List V} {ts : List T} {as : List Addr} : W.F a = some (.tup vs) → TOkL K W0 W vs ts as → TOk K W0 W (.ref a) (.tup ts) as
  | dK {l : Addr} {kvs : List (L2.Key × V)} {ks : List D} {ts : List T} {as : List Addr} : W.H l = some (.dK kvs) → W.G l = some (.dK kvs) → W.F l = none → W0.H l = none → kvs.map (fun p => kD p.1) = ks ∧ (kvs.map (·.1)).Nodup ∧ kvs.length ≤ sizeLine → TOkL K W0 W (kvs.map (·.2)) ts as → TOk K W0 W (.ref l) (.dct false ks ts) (l :: as)
  | dN {l : Addr} {xs : List NE} {vs : List V} {ks : List D} {ts : List T} {as : List Addr} : W.H l = some (.ext (dφ K.w l xs)) → W.G l = some (.ext (dφ K.w l xs)) → W.F l = none → W0.H l = none →
      ((l == sysModules) = false ∧ xs.length ≤ sizeLine ∧ (xs.map (·.1)).Nodup) → DenL K W.F (xs.map fun x => V.ref x.2.1) ks → ks.map (D.kk true) = xs.map (fun x => some x.1) → Vals vs (xs.map (·.2.2)) → TOkL K W0 W vs ts as → TOk K W0 W (.ref l) (.dct true ks ts) (l :: as)
  | obj {n : Nat} {l dx C : Addr} {fs : List (Str × V)} {ns : List Str} {ts : List T} {as : List Addr} : W.H l = some (.ins C dx fs) → W.G l = none → W.F l = none → W0.H l = none → fs.map (·.1) = ns ∧ C = K.cls n → TOkL K W0 W (fs.map (·.2)) ts as → TOk K W0 W (.ref l) (.obj n C ns ts) (l :: as)
inductive TOkL (K : KW) (W0 W : Wd) : List V → List T → List Addr → Prop
  | nil : TOkL K W0 W [] [] []
  | cons {v : V} {t : T} {as : List Addr} {vs : List V} {ts : List T} {bs : List Addr} : TOk K W0 W v t as → TOkL K W0 W vs ts bs → TOkL K W0 W (v :: vs) (t :: ts) (as ++ bs)
end
section
variable {K : KW} {W0 W0' W W' : Wd}
mutual
theorem TOk.det : ∀ (t : T) (v : V) (as bs : List Addr), TOk K W0 W v t as → TOk K W0 W v t bs → as = bs
  | .leaf d, _, _, _, h, g => by cases h; cases g; rfl
  | .lst ts, _, _, _, h, g => by
    cases h with
    | lst h1 h2 h3 h4 h5 =>
      cases g with
      | lst g1 g2 g3 g4 g5 =>
        rw [h1] at g1; cases g1
        rw [TOkL.det ts _ _ _ h5 g5]
  | .tup ts, _, _, _, h, g => by
    cases h with
    | tup h1 h2 =>
      cases g with
      | tup g1 g2 =>
        rw [h1] at g1; cases g1
        rw [TOkL.det ts _ _ _ h2 g2]
  | .dct false ks ts, _, _, _, h, g => by
    cases h with
    | dK h1 h2 h3 h4 h5 h6 =>
      cases g with
      | dK g1 g2 g3 g4 g5 g6 =>
        rw [h1] at g1; cases g1
        rw [TOkL.det ts _ _ _ h6 g6]
  | .dct true ks ts, _, _, _, h, g => by
    cases h with
    | dN h1 h2 h3 h4 h5 h6 h7 h8 h9 =>
      cases g with
      | dN g1 g2 g3 g4 g5 g6 g7 g8 g9 =>
        rw [h1] at g1
        have e1 := dφ_inj h5.1 h5.2.1 h5.2.2 (HO.ext.inj (Option.some.inj g1))
        have e2 := congrArg (List.map (fun p : Addr × Value => p.2)) e1
        rw [List.map_map, List.map_map] at e2
        have e3 : Vals _ _ := g8
        rw [show (List.map (fun x : NE => x.2.2) _) = _ from e2.symm] at e3
        have := Vals.inj h8 e3
        subst this
        rw [TOkL.det ts _ _ _ h9 g9]
  | .obj n C ns ts, _, _, _, h, g => by
    cases h with
    | obj h1 h2 h3 h4 h5 h6 =>
      cases g with
      | obj g1 g2 g3 g4 g5 g6 =>
        rw [h1] at g1; cases g1
        rw [TOkL.det ts _ _ _ h6 g6]
theorem TOkL.det : ∀ (ts : List T) (vs : List V) (as bs : List Addr), TOkL K W0 W vs ts as → TOkL K W0 W vs ts bs → as = bs
  | [], _, _, _, h, g => by cases h; cases g; rfl
  | t :: ts, _, _, _, h, g => by
    cases h with
    | cons h1 h2 =>
      cases g with
      | cons g1 g2 => rw [TOk.det t _ _ _ h1 g1, TOkL.det ts _ _ _ h2 g2]
end
mutual
theorem TOk.move (ff : Same W.F W'.F) (e0 : ∀ l, W0.H l = none → W0'.H l = none) : ∀ (t : T) (v : V) (as : List Addr), (∀ l ∈ as, W'.H l = W.H l ∧ W'.G l = W.G l ∧ W'.F l = W.F l) → TOk K W0 W v t as → TOk K W0' W' v t as
  | .leaf d, _, _, _, h => by cases h with | leaf h => exact .leaf (h.up ff)
  | .lst ts, _, _, e, h => by
    cases h with
    | lst h1 h2 h3 h4 h5 =>
      obtain ⟨e1, e2, e3⟩ := e _ (List.mem_cons_self ..)
      exact .lst (e1.trans h1) (e2.trans h2) (e3.trans h3) (e0 _ h4) (TOkL.move ff e0 ts _ _ (fun l hl => e l (List.mem_cons_of_mem _ hl)) h5)
  | .tup ts, _, _, e, h => by
    cases h with
    | tup h1 h2 => exact .tup (ff _ _ h1) (TOkL.move ff e0 ts _ _ e h2)
  | .dct false ks ts, _, _, e, h => by
    cases h with
    | dK h1 h2 h3 h4 h5 h6 =>
      obtain ⟨e1, e2, e3⟩ := e _ (List.mem_cons_self ..)
      exact .dK (e1.trans h1) (e2.trans h2) (e3.trans h3) (e0 _ h4) h5 (TOkL.move ff e0 ts _ _ (fun l hl => e l (List.mem_cons_of_mem _ hl)) h6)
  | .dct true ks ts, _, _, e, h => by
    cases h with
    | dN h1 h2 h3 h4 h5 h6 h7 h8 h9 =>
      obtain ⟨e1, e2, e3⟩ := e _ (List.mem_cons_self ..)
      exact .dN (e1.trans h1) (e2.trans h2) (e3.trans h3) (e0 _ h4) h5 (h6.up ff) h7 h8 (TOkL.move ff e0 ts _ _ (fun l hl => e l (List.mem_cons_of_mem _ hl)) h9)
  | .obj n C ns ts, _, _, e, h => by
    cases h with
    | obj h1 h2 h3 h4 h5 h6 =>
      obtain ⟨e1, e2, e3⟩ := e _ (List.mem_cons_self ..)
      exact .obj (e1.trans h1) (e2.trans h2) (e3.trans h3) (e0 _ h4) h5 (TOkL.move ff e0 ts _ _ (fun l hl => e l (List.mem_cons_of_mem _ hl)) h6)
theorem TOkL.move (ff : Same W.F W'.F) (e0 : ∀ l, W0.H l = none → W0'.H l = none) : ∀ (ts : List T) (vs : List V) (as : List Addr), (∀ l ∈ as, W'.H l = W.H l ∧ W'.G l = W.G l ∧ W'.F l = W.F l) → TOkL K W0 W vs ts as → TOkL K W0' W' vs ts as
  | [], _, _, _, h => by cases h; exact .nil
  | t :: ts, _, _, e, h => by
    cases h with
    | cons h1 h2 => exact .cons (TOk.move ff e0 t _ _ (fun l hl => e l (List.mem_append_left _ hl)) h1) (TOkL.move ff e0 ts _ _ (fun l hl => e l (List.mem_append_right _ hl)) h2)
end
mutual
theorem TOk.den (k : WOk W) : ∀ (t : T) (v : V) (as : List Addr), t.plain = true → TOk K W0 W v t as → Den K W.G v t.view
  | .leaf d, _, _, _, h => by cases h with | leaf h => exact h.up k.fg
  | .lst ts, _, _, p, h => by
    cases h with
    | lst h1 h2 h3 h4 h5 => exact .lst h2 (TOkL.den k ts _ _ p h5)
  | .tup ts, _, _, p, h => by
    cases h with
    | tup h1 h2 => exact .tup (.inl (.inl (k.fg _ _ h1))) (TOkL.den k ts _ _ p h2)
  | .dct false ks ts, _, _, p, h => by
    cases h with
    | dK h1 h2 h3 h4 h5 h6 => exact .dK (.inl h2) h5.1 (TOkL.den k ts _ _ p h6)
  | .dct true ks ts, _, _, p, h => by
    cases h with
    | dN h1 h2 h3 h4 h5 h6 h7 h8 h9 => exact .dN (.inl h2) (h6.up k.fg) h7 h8 (TOkL.den k ts _ _ p h9)
  | .obj _ _ _ _, _, _, p, _ => by cases p
theorem TOkL.den (k : WOk W) : ∀ (ts : List T) (vs : List V) (as : List Addr), T.plainL ts = true → TOkL K W0 W vs ts as → DenL K W.G vs (T.viewL ts)
  | [], _, _, _, h => by cases h; exact .nil
  | t :: ts, _, _, p, h => by
    have p' : (T.plain t && T.plainL ts) = true := p
    rw [Bool.and_eq_true] at p'
    cases h with
    | cons h1 h2 => exact .cons (TOk.den k t _ _ p'.1 h1) (TOkL.den k ts _ _ p'.2 h2)
end
mutual
theorem TOk.there : ∀ (t : T) (v : V) (as : List Addr), TOk K W0 W v t as → ∀ l ∈ as, (∃ o, W.H l = some o ∧ (W.G l = some o ∧ ownO o = true ∨ W.G l = none ∧ ∃ C dx fs, o = .ins C dx fs)) ∧ W.F l = none ∧ W0.H l = none
  | .leaf d, _, _, h, l, hl => by cases h; cases hl
  | .lst ts, _, _, h, l, hl => by
    cases h with
    | lst h1 h2 h3 h4 h5 =>
      rcases List.mem_cons.mp hl with e | e
      · subst e; exact ⟨⟨_, h1, .inl ⟨h2, rfl⟩⟩, h3, h4⟩
      · exact TOkL.there ts _ _ h5 l e
  | .tup ts, _, _, h, l, hl => by
    cases h with
    | tup h1 h2 => exact TOkL.there ts _ _ h2 l hl
  | .dct false ks ts, _, _, h, l, hl => by
    cases h with
    | dK h1 h2 h3 h4 h5 h6 =>
      rcases List.mem_cons.mp hl with e | e
      · subst e; exact ⟨⟨_, h1, .inl ⟨h2, rfl⟩⟩, h3, h4⟩
      · exact TOkL.there ts _ _ h6 l e
  | .dct true ks ts, _, _, h, l, hl => by
    cases h with
    | dN h1 h2 h3 h4 h5 h6 h7 h8 h9 =>
      rcases List.mem_cons.mp hl with e | e
      · subst e; exact ⟨⟨_, h1, .inl ⟨h2, rfl⟩⟩, h3, h4⟩
      · exact TOkL.there ts _ _ h9 l e
  | .obj n C ns ts, _, _, h, l, hl => by
    cases h with
    | obj h1 h2 h3 h4 h5 h6 =>
      rcases List.mem_cons.mp hl with e | e
      · subst e; exact ⟨⟨_, h1, .inr ⟨h2, _, _, _, rfl⟩⟩, h3, h4⟩
      · exact TOkL.there ts _ _ h6 l e
theorem TOkL.there : ∀ (ts : List T) (vs : List V) (as : List Addr), TOkL K W0 W vs ts as → ∀ l ∈ as, (∃ o, W.H l = some o ∧ (W.G l = some o ∧ ownO o = true ∨ W.G l = none ∧ ∃ C dx fs, o = .ins C dx fs)) ∧ W.F l = none ∧ W0.H l = none
  | [], _, _, h, l, hl => by cases h; cases hl
  | t :: ts, _, _, h, l, hl => by
    cases h with
    | cons h1 h2 =>
      rcases List.mem_append.mp hl with e | e
      · exact TOk.there t _ _ h1 l e
      · exact TOkL.there ts _ _ h2 l e
end
end
inductive Cell where
  /-- settled data -/
  | fz (d : D)
  /-- a list of one's own -/
  | own (ds : List D)
  /-- the instance that __init__ fills; where it stands, and its dict: told by W0's G -/
  | slf (C : Addr) (ns : List Str) (ds : List D)
  /-- the exception, of the class at C, that the suite holds -/
  | exc (C : Addr) (ns : List Str) (ds : List D)
  /-- lists of one's own within lists -/
  | tre (a : Option Nat) (t : T)
abbrev Env := List (Option Cell)
/-- a structure that was lent to the def keeps its place: a -/
def Wd.anc (W0 : Wd) (k : Nat) : Addr := match W0.G (k + 4) with
  | some (.own a) => a
  | _ => 0
def AncOk (W0 : Wd) (a : Option Nat) (v : V) : Prop := ∀ k, a = some k → v = .ref (W0.anc k)
/-- where the exception that a suite holds stands, and its dict: told by W0's G, which is used for nothing else -/
def Wd.xa (W0 : Wd) : Addr := match W0.G 0 with
  | some (.own a) => a
  | _ => 0
def Wd.xd (W0 : Wd) : Addr := match W0.G 1 with
  | some (.own a) => a
  | _ => 0
def Wd.sa (W0 : Wd) : Addr := match W0.G 2 with
  | some (.own a) => a
  | _ => 0
def Wd.sd (W0 : Wd) : Addr := match W0.G 3 with
  | some (.own a) => a
  | _ => 0
def CellOk (K : KW) (W0 W : Wd) : Option V → Option Cell → Prop
  | _, none => True
  | x, some (.fz d) => ∃ v, x = some v ∧ Den K W.F v d
  | x, some (.own ds) => ∃ l vs, x = some (.ref l) ∧ W.H l = some (.lst vs) ∧ W.G l = some (.lst vs) ∧ W.F l = none ∧ W0.H l = none ∧ DenL K W.F vs ds
  | x, some (.slf C ns ds) => ∃ fs, x = some (.ref W0.sa) ∧ W.H W0.sa = some (.ins C W0.sd fs) ∧ W.G W0.sa = none ∧ W.F W0.sa = none ∧ W0.H W0.sa = none ∧ fs.map (·.1) = ns ∧ DenL K W.F (fs.map (·.2)) ds
  | x, some (.exc C ns ds) => ∃ fs, x = some (.ref W0.xa) ∧ W.H W0.xd = some (.xd fs) ∧ fs.map (·.1) = ns ∧ DenL K W.F (fs.map (·.2)) ds
  | x, some (.tre a t) => ∃ v as, x = some v ∧ TOk K W0 W v t as ∧ as.Nodup ∧ AncOk W0 a v
/-- the cell holds the object at l -/
def cobj : Option Cell → Bool
  | some (.own _) => true | some (.slf _ _ _) => true | _ => false
def Holds (K : KW) (W0 W : Wd) (x : Option V) (c : Option Cell) (l : Addr) : Prop := (x = some (.ref l) ∧ cobj c = true) ∨ ∃ b t v as, c = some (.tre b t) ∧ x = some v ∧ TOk K W0 W v t as ∧ l ∈ as
structure SD (K : KW) (W0 W : Wd) (σ : L2.St) (c : Env) : Prop where
  len : σ.length = c.length
  ok : ∀ (i : Nat) x y, σ[i]? = some x → c[i]? = some y → CellOk K W0 W x y
  one : ∀ (i j : Nat) x y z u l, σ[i]? = some x → c[i]? = some y → σ[j]? = some z → c[j]? = some u → Holds K W0 W x y l → Holds K W0 W z u l → i = j
theorem SD.at {K : KW} {W0 W : Wd} {σ : L2.St} {c : Env} (s : SD K W0 W σ c) {i : Nat} {y : Option Cell} (h : c[i]? = some y) : ∃ x, σ[i]? = some x ∧ CellOk K W0 W x y := by
  have hi : i < σ.length := by rw [s.len]; exact (List.getElem?_eq_some_iff.mp h).1
  exact ⟨σ[i], List.getElem?_eq_getElem hi, s.ok i _ y (List.getElem?_eq_getElem hi) h⟩
theorem TOk.gr {K : KW} {W0 W W' : Wd} (g : Gr W W') {v : V} {t : T} {as : List Addr} (h : TOk K W0 W v t as) : TOk K W0 W' v t as :=
  TOk.move g.f (fun _ e => e) t v as (fun l hl => by
    obtain ⟨⟨vs, h1, _⟩, h3, h4⟩ := TOk.there t v as h l hl
    exact ⟨(g.h _ _ h1).trans h1.symm, g.go _ _ h1, g.fo _ _ h1⟩) h
theorem CellOk.gr {K : KW} {W0 W W' : Wd} (g : Gr W W') : ∀ {x : Option V} {y : Option Cell}, CellOk K W0 W x y → CellOk K W0 W' x y
  | _, none, _ => trivial
  | _, some (.fz d), ⟨v, h1, h2⟩ => ⟨v, h1, Den.mono g.f _ _ h2⟩
  | _, some (.own ds), ⟨l, vs, h1, h2, h3, h4, h5, h6⟩ => ⟨l, vs, h1, g.h _ _ h2, (g.go _ _ h2).trans h3, (g.fo _ _ h2).trans h4, h5, DenL.mono g.f _ _ h6⟩
  | _, some (.slf C ns ds), ⟨fs, h1, h2, h3, h4, h5, h6, h7⟩ => ⟨fs, h1, g.h _ _ h2, (g.go _ _ h2).trans h3, (g.fo _ _ h2).trans h4, h5, h6, DenL.mono g.f _ _ h7⟩
  | _, some (.exc C ns ds), ⟨fs, h1, h2, h3, h4⟩ => ⟨fs, h1, g.h _ _ h2, h3, DenL.mono g.f _ _ h4⟩
  | _, some (.tre _ t), ⟨v, as, h1, h2, h3⟩ => ⟨v, as, h1, TOk.gr g h2, h3⟩
/-- what is held stays held where the trees stay -/
theorem SD.one_move {K : KW} {W0 W0' W W' : Wd} {σ : L2.St} {c : Env} (s : SD K W0 W σ c) (hm : ∀ (i : Nat) b t v as, σ[i]? = some (some v) → c[i]? = some (some (.tre b t)) → TOk K W0 W v t as → TOk K W0' W' v t as) :
    ∀ (i j : Nat) x y z u l, σ[i]? = some x → c[i]? = some y → σ[j]? = some z → c[j]? = some u → Holds K W0' W' x y l → Holds K W0' W' z u l → i = j := by
  have back : ∀ (i : Nat) x y l, σ[i]? = some x → c[i]? = some y → Holds K W0' W' x y l → Holds K W0 W x y l := by
    intro i x y l h1 h2 h
    rcases h with h | ⟨b0, t, v, as, rfl, rfl, h3, h4⟩
    · exact .inl h
    · obtain ⟨v', bs, e, h5, h6⟩ := s.ok i _ _ h1 h2
      cases e
      have h7 := hm i b0 t v bs h1 h2 h5
      rw [TOk.det t v as bs h3 h7] at h4
      exact .inr ⟨_, t, v, bs, rfl, rfl, h5, h4⟩
  exact fun i j x y z u l h1 h2 h3 h4 h5 h6 => s.one i j x y z u l h1 h2 h3 h4 (back i x y l h1 h2 h5) (back j z u l h3 h4 h6)
theorem SD.gr {K : KW} {W0 W W' : Wd} {σ : L2.St} {c : Env} (s : SD K W0 W σ c) (g : Gr W W') : SD K W0 W' σ c :=
  ⟨s.len, fun i x y h1 h2 => (s.ok i x y h1 h2).gr g, s.one_move fun i b t v as _ _ h => h.gr g⟩
/-- all since the entry -/
structure Up (W0 W : Wd) : Prop where
  h : Same W0.H W.H
  f : Same W0.F W.F
  fo : ∀ a o, W0.H a = some o → W.F a = W0.F a
theorem Up.gr {W0 W W' : Wd} (u : Up W0 W) (g : Gr W W') : Up W0 W' := ⟨u.h.trans g.h, u.f.trans g.f, fun a o h => (g.fo a o (u.h a o h)).trans (u.fo a o h)⟩

/-! ### readings by functions of cells -/
abbrev GE := Env → Option D
abbrev GB := Env → Option Bool
abbrev GA := Env → Option (List D)
/-- an expression: b: its value is settled, or stands -/
def VT (K : KW) (W0 : Wd) (b : Bool) (te : TE) (g : GE) : Prop :=
  ∀ (W : Wd) (σ : L2.St) (c : Env) (d : D) (Q : VK), WOk W → Up W0 W → SD K W0 W σ c → g c = some d → (∀ W' v, WOk W' → Gr W W' → Den K (W'.at b) v d → Q v W'.H) → te σ W.H Q
/-- a test -/
def VB (K : KW) (W0 : Wd) (tt : TT) (g : GB) : Prop :=
  ∀ (W : Wd) (σ : L2.St) (c : Env) (d : Bool) (Q : Bool → Hp → Prop), WOk W → Up W0 W → SD K W0 W σ c → g c = some d → (∀ W', WOk W' → Gr W W' → Q d W'.H) → tt σ W.H Q
/-- arguments -/
def VArg (K : KW) (W0 : Wd) (b : Bool) (ta : TA) (g : GA) : Prop :=
  ∀ (W : Wd) (σ : L2.St) (c : Env) (ds : List D) (Q : List V → Hp → Prop), WOk W → Up W0 W → SD K W0 W σ c → g c = some ds → (∀ W' vs, WOk W' → Gr W W' → DenL K (W'.at b) vs ds → Q vs W'.H) → ta σ W.H Q
/-- a list that is new -/
def VN (K : KW) (W0 : Wd) (te : TE) (g : GA) : Prop :=
  ∀ (W : Wd) (σ : L2.St) (c : Env) (ds : List D) (Q : VK), WOk W → Up W0 W → SD K W0 W σ c → g c = some ds →
    (∀ W' l vs, WOk W' → Gr W W' → W'.H l = none → DenL K W'.F vs ds → Q (.ref l) (upd W'.H l (.lst vs))) → te σ W.H Q

section
variable {K : KW} {b : Bool} {te ta tb : TE} {g ga gb : GE}
theorem VT.weak (h : VT K W0 true te g) : VT K W0 b te g := by
  cases b
  · intro W σ c d Q k u s e q
    exact h W σ c d Q k u s e fun W' v k' g' hd => q W' v k' g' (Den.mono k'.fg _ _ hd)
  · exact h
/-- a scalar is settled -/
def gScal (g : GE) : GE := fun c => match g c with
  | some d => if d.scal then some d else none
  | none => none
theorem gScal_some {g : GE} {c : Env} {d : D} (h : gScal g c = some d) : g c = some d ∧ d.scal = true := by
  unfold gScal at h
  split at h
  · rename_i e he
    by_cases hs : e.scal = true
    · rw [if_pos hs] at h; cases h; exact ⟨he, hs⟩
    · rw [if_neg hs] at h; cases h
  · cases h
theorem vt_scal {b' : Bool} (h : VT K W0 b' te g) : VT K W0 b te (gScal g) := by
  intro W σ c d Q k u s e q
  obtain ⟨e1, e2⟩ := gScal_some e
  refine h W σ c d Q k u s e1 fun W' v k' g' hd => q W' v k' g' ?_
  rw [den_scal hd e2]
  exact scal_den e2
theorem VN.vt {g : GA} (h : VN K W0 te g) : VT K W0 b te (fun c => (g c).map D.lst) := by
  intro W σ c d Q k u s e q
  simp only [Option.map_eq_some_iff] at e
  obtain ⟨ds, e1, e2⟩ := e
  subst e2
  refine h W σ c ds Q k u s e1 fun W' l vs k' g' hl hd => ?_
  exact q (W'.new b l (.lst vs)) _ (new_ok k' hl) (g'.trans (new_gr k' hl)) (.lst new_self (new_denL k' hl (hd.up (by cases b; exact k'.fg; exact Same.refl _))))

/-! names and constants -/
def gVar (i : Nat) : GE := fun c => match c[i]? with
  | some (some (.fz d)) => some d
  | _ => none
def gLook (i : Nat) : GE := fun c => match c[i]? with
  | some (some (.fz d)) => some d
  | some (some (.own ds)) => some (.lst ds)
  | _ => none
/-- a structure as it stands -/
def gLookT (i : Nat) : GE := fun c => match c[i]? with
  | some (some (.tre _ t)) => if t.plain = true then some t.view else none
  | _ => none
def gC (d : D) : GE := fun _ => some d
theorem vt_var (i : Nat) : VT K W0 b (tVar i) (gVar i) := by
  intro W σ c d Q k u s e q
  unfold gVar at e
  split at e
  · rename_i d' hc
    cases e
    obtain ⟨x, hx, v, rfl, hd⟩ := s.at hc
    exact ⟨v, hx, q W v k (Gr.refl W) (hd.up (by cases b; exact k.fg; exact Same.refl _))⟩
  · cases e
theorem vt_look (i : Nat) : VT K W0 false (tVar i) (gLook i) := by
  intro W σ c d Q k u s e q
  unfold gLook at e
  split at e
  · rename_i d' hc
    cases e
    obtain ⟨x, hx, v, rfl, hd⟩ := s.at hc
    exact ⟨v, hx, q W v k (Gr.refl W) (hd.up k.fg)⟩
  · rename_i ds hc
    cases e
    obtain ⟨x, hx, l, vs, rfl, h1, h2, h3, h4, h5⟩ := s.at hc
    exact ⟨_, hx, q W _ k (Gr.refl W) (.lst h2 (h5.up k.fg))⟩
  · cases e
theorem vt_lookT (i : Nat) : VT K W0 false (tVar i) (gLookT i) := by
  intro W σ c d Q k u s e q
  unfold gLookT at e
  split at e
  · rename_i t hc
    split at e
    · rename_i hp
      cases e
      obtain ⟨x, hx, v, as, rfl, h1, h2⟩ := s.at hc
      exact ⟨_, hx, q W _ k (Gr.refl W) (TOk.den k t v as hp h1)⟩
    · cases e
  · cases e
theorem vt_int {i : Int} : VT K W0 b (tC (.int i)) (gC (.int i)) := by
  intro W σ c d Q k u s e q
  cases e
  exact q W _ k (Gr.refl W) (.int i)
theorem vt_bl {i : Bool} : VT K W0 b (tC (.bl i)) (gC (.bl i)) := by
  intro W σ c d Q k u s e q
  cases e
  exact q W _ k (Gr.refl W) (.bl i)
theorem vt_str {x : Str} : VT K W0 b (tC (.str x)) (gC (.str x)) := by
  intro W σ c d Q k u s e q
  cases e
  exact q W _ k (Gr.refl W) (.str x)
theorem vt_non : VT K W0 b (tC .non) (gC .non) := by
  intro W σ c d Q k u s e q
  cases e
  exact q W _ k (Gr.refl W) .non

/-! operators on two values -/
def g2 (f : D → D → Option D) (ga gb : GE) : GE := fun c => match ga c with
  | some x => match gb c with
    | some y => f x y
    | none => none
  | none => none
theorem g2_some {f : D → D → Option D} {ga gb : GE} {c : Env} {d : D} (h : g2 f ga gb c = some d) : ∃ x y, ga c = some x ∧ gb c = some y ∧ f x y = some d := by
  unfold g2 at h
  split at h
  · rename_i x hx
    split at h
    · rename_i y hy
      exact ⟨x, y, hx, hy, h⟩
    · cases h
  · cases h
/-- the operation r does f, its value as settled as its operands -/
def RO (K : KW) (r : R2) (f : D → D → Option D) : Prop :=
  ∀ (b : Bool) (W : Wd) (x y : V) (d e z : D) (Q : VK), WOk W → Den K (W.at b) x d → Den K (W.at b) y e → f d e = some z → (∀ W' v, WOk W' → Gr W W' → Den K (W'.at b) v z → Q v W'.H) → r x y W.H Q
/-- .. its value a scalar -/
def ROS (K : KW) (r : R2) (f : D → D → Option D) : Prop :=
  ∀ (W : Wd) (x y : V) (d e z : D) (Q : VK), WOk W → Den K W.G x d → Den K W.G y e → f d e = some z → (∀ v, (∀ H, Den K H v z) → Q v W.H) → r x y W.H Q
theorem vt_op {r : R2} {f : D → D → Option D} (hr : RO K r f) (ha : VT K W0 b ta ga) (hb : VT K W0 b tb gb) : VT K W0 b (tOp r ta tb) (g2 f ga gb) := by
  intro W σ c d Q k u s e q
  obtain ⟨x, y, ex, ey, ef⟩ := g2_some e
  refine ha W σ c x _ k u s ex fun W1 v1 k1 g1 d1 => ?_
  refine hb W1 σ c y _ k1 (u.gr g1) (s.gr g1) ey fun W2 v2 k2 g2 d2 => ?_
  exact hr b W2 v1 v2 x y d Q k2 (d1.up (g2.at b)) d2 ef fun W3 v3 k3 g3 d3 => q W3 v3 k3 (g1.trans (g2.trans g3)) d3
theorem vt_opS {b1 b2 : Bool} {r : R2} {f : D → D → Option D} (hr : ROS K r f) (ha : VT K W0 b1 ta ga) (hb : VT K W0 b2 tb gb) : VT K W0 b (tOp r ta tb) (g2 f ga gb) := by
  intro W σ c d Q k u s e q
  obtain ⟨x, y, ex, ey, ef⟩ := g2_some e
  refine ha W σ c x _ k u s ex fun W1 v1 k1 g1 d1 => ?_
  refine hb W1 σ c y _ k1 (u.gr g1) (s.gr g1) ey fun W2 v2 k2 g2 d2 => ?_
  exact hr W2 v1 v2 x y d Q k2 (d1.up ((g2.at b1).trans (k2.atG b1))) (d2.up (k2.atG b2)) ef fun v hv => q W2 v k2 (g1.trans g2) (hv _)
end
end VL
end

section
/-! VB: operators, tests, subscripts, built-in calls by data. -/
namespace VL
open PySem PySem.Spec PyProof.Rows L2

/-! ### + -/
def dAdd : D → D → Option D
  | .int i, .int j => some (.int (i + j))
  | .str a, .str b => if a.length + b.length ≤ sizeLine then some (.str (a ++ b)) else none
  | .lst a, .lst b => if a.length + b.length ≤ sizeLine then some (.lst (a ++ b)) else none
  | .tup a, .tup b => if a.length + b.length ≤ sizeLine then some (.tup (a ++ b)) else none
  | _, _ => none
def rAddU (K : PySem.W.Frag) : R2 := fun x y H Q => rI0 (fun i j => .int (i + j)) x y H Q ∨ (∃ i j, x = .str i ∧ y = .str j ∧ i.length + j.length ≤ sizeLine ∧ Q (.str (i ++ j)) H) ∨ rCat x y H Q ∨ rCatA K x y H Q
theorem op_addU {X : Cx} : OpR X (binaryOp .Add) (rAddU X.K) := op_add.or (op_add_str.or (op_cat.or op_catA))
theorem ro_add {K : KW} : RO K (rAddU K) dAdd := by
  intro b W x y d e z Q k hx hy hf q
  unfold dAdd at hf
  split at hf
  · cases hf; cases hx; cases hy
    exact .inl ⟨_, _, rfl, rfl, q W _ k (Gr.refl W) (.int _)⟩
  · split at hf
    · rename_i hz
      cases hf; cases hx; cases hy
      exact .inr (.inl ⟨_, _, rfl, rfl, hz, q W _ k (Gr.refl W) (.str _)⟩)
    · cases hf
  · split at hf
    · rename_i hz
      cases hf
      cases hx with
      | lst h1 h2 =>
        cases hy with
        | lst h3 h4 =>
          refine .inr (.inr (.inl ⟨_, _, _, _, rfl, rfl, k.atH b _ _ h1, k.atH b _ _ h3, by rw [h2.length, h4.length]; exact hz, fun p hp => ?_⟩))
          exact q (W.new b p _) _ (new_ok k hp) (new_gr k hp) (.lst new_self (new_denL k hp (h2.append h4)))
    · cases hf
  · split at hf
    · rename_i hz
      cases hf
      cases hx with
      | @tup a1 xs1 _ h1 h2 =>
        cases hy with
        | @tup a2 xs2 _ h3 h4 =>
          refine .inr (.inr (.inr ⟨_, _, _, _, rfl, rfl, sqT_same (k.atH b) h1, sqT_same (k.atH b) h3, by rw [h2.length, h4.length]; exact hz, fun e1 => ?_, fun _ e2 => ?_, fun _ _ p hp => ?_⟩))
          · refine q W _ k (Gr.refl W) (.tup h3 ?_)
            have z := h2.append h4
            rw [e1] at z
            exact z
          · refine q W _ k (Gr.refl W) (.tup h1 ?_)
            have z := h2.append h4
            rw [e2, List.append_nil] at z
            exact z
          · exact q (W.new b p _) _ (new_ok k hp) (new_gr k hp) (.tup (SqT.of new_self) (new_denL k hp (h2.append h4)))
    · cases hf
  · cases hf

/-! ### ints -/
def dI (C : Int → Int → Prop) [∀ i j, Decidable (C i j)] (f : Int → Int → Int) : D → D → Option D
  | .int i, .int j => if C i j then some (.int (f i j)) else none
  | _, _ => none
theorem ros_I {K : KW} {C : Int → Int → Prop} [∀ i j, Decidable (C i j)] {f : Int → Int → Int} : ROS K (rI C fun i j => .int (f i j)) (dI C f) := by
  intro W x y d e z Q k hx hy hf q
  unfold dI at hf
  split at hf
  · split at hf
    · rename_i hc
      cases hf; cases hx; cases hy
      exact ⟨_, _, rfl, rfl, hc, q _ fun H => .int _⟩
    · cases hf
  · cases hf
def dSub : D → D → Option D
  | .int i, .int j => some (.int (i - j))
  | _, _ => none
theorem ros_sub {K : KW} : ROS K (rI0 fun i j => .int (i - j)) dSub := by
  intro W x y d e z Q k hx hy hf q
  unfold dSub at hf
  split at hf
  · cases hf; cases hx; cases hy
    exact ⟨_, _, rfl, rfl, q _ fun H => .int _⟩
  · cases hf
instance : ∀ i j, Decidable (CMul i j) := fun i j => by unfold CMul; infer_instance
instance : ∀ i j, Decidable (CDivW i j) := fun i j => by unfold CDivW; infer_instance
instance : ∀ i j, Decidable (CPow i j) := fun i j => by unfold CPow; infer_instance
abbrev PosR (i j : Int) : Prop := 0 < j
abbrev dMulI : D → D → Option D := dI CMul fun i j => i * j
abbrev dFdiv : D → D → Option D := dI CDivW fun i j => i / j
abbrev dMod : D → D → Option D := dI PosR fun i j => i % j
abbrev dPow : D → D → Option D := dI CPow fun i j => i ^ j.toNat
/-- ints, a list times an int -/
def dMul : D → D → Option D
  | .int i, .int j => if CMul i j then some (.int (i * j)) else none
  | .lst a, .int j => if 0 ≤ j ∧ j < 2 ^ 63 ∧ a.length * j.toNat ≤ sizeLine then some (.lst (List.replicate j.toNat a).flatten) else none
  | .str a, .int j => if 0 ≤ j ∧ j < 2 ^ 60 ∧ a.length * j.toNat ≤ sizeLine then some (.str (Txt.mul a j)) else none
  | _, _ => none
def rMulS : R2 := fun x y H Q => ∃ a n, x = .str a ∧ y = .int n ∧ MulOk a n ∧ Q (.str (Txt.mul a n)) H
theorem op_mulS {X : Cx} : OpR X (binaryOp .Mult) rMulS := by
  intro pins s σ H x y v u Q I rx ry h
  obtain ⟨a, n, rfl, rfl, hok, q⟩ := h
  obtain ⟨t, rfl⟩ := rx
  obtain ⟨t2, rfl⟩ := ry
  exact PySem.SB.mul hok fun t' k => ⟨.str _, H, I.tok k, ⟨_, rfl⟩, q⟩
theorem mulOk_of {a : Str} {j : Int} (h0 : 0 ≤ j) (h1 : j < 2 ^ 60) (h2 : a.length * j.toNat ≤ sizeLine) : MulOk a j := by
  refine ⟨?_, fun h _ => ?_, fun _ _ => ?_⟩
  · rw [decide_eq_false (by omega), decide_eq_false (by omega)]; rfl
  · have hj : 0 < j := by omega
    intro z
    have h3 : (2 ^ 63 - 1 : Int) < a.length * j := by
      have := Int.lt_mul_of_ediv_lt hj z
      exact this
    have h4 : ((a.length * j.toNat : Nat) : Int) = a.length * j := by
      rw [Int.natCast_mul, Int.toNat_of_nonneg h0]
    have h5 : sizeLine ≤ 2 ^ 24 := by decide
    omega
  · show decide (a.length * j.toNat > sizeLine) = false
    rw [decide_eq_false]; omega
def rMulU : R2 := fun x y H Q => rI CMul (fun i j => .int (i * j)) x y H Q ∨ rRep x y H Q ∨ rMulS x y H Q
theorem op_mulU {X : Cx} : OpR X (binaryOp .Mult) rMulU := op_mul.or (op_rep.or op_mulS)
theorem ro_mul {K : KW} : RO K rMulU dMul := by
  intro b W x y d e z Q k hx hy hf q
  unfold dMul at hf
  split at hf
  · split at hf
    · rename_i hc
      cases hf; cases hx; cases hy
      exact .inl ⟨_, _, rfl, rfl, hc, q W _ k (Gr.refl W) (.int _)⟩
    · cases hf
  · split at hf
    · rename_i hc
      cases hf; cases hy
      cases hx with
      | lst h1 h2 =>
        refine .inr (.inl ⟨_, _, _, rfl, rfl, k.atH b _ _ h1, by omega, hc.2.1, by rw [h2.length]; exact hc.2.2, fun p hp => ?_⟩)
        exact q (W.new b p _) _ (new_ok k hp) (new_gr k hp) (.lst new_self (new_denL k hp (h2.rep _)))
    · cases hf
  · split at hf
    · rename_i hc
      cases hf; cases hx; cases hy
      exact .inr (.inr ⟨_, _, rfl, rfl, mulOk_of hc.1 hc.2.1 hc.2.2, q W _ k (Gr.refl W) (.str _)⟩)
    · cases hf
  · cases hf
def dNeg : D → Option D
  | .int i => some (.int (-i))
  | _ => none

/-! ### order -/
def dCmp (f : Int → Int → Bool) (g : Str → Str → Bool) : D → D → Option D
  | .int i, .int j => some (.bl (f i j))
  | .str a, .str b => some (.bl (g a b))
  | _, _ => none
def rCmpU (f : Int → Int → Bool) (g : Str → Str → Bool) : R2 := fun x y H Q => rI0 (fun i j => .bl (f i j)) x y H Q ∨ (∃ i j, x = .str i ∧ y = .str j ∧ Q (.bl (g i j)) H)
theorem ros_cmp {K : KW} {f : Int → Int → Bool} {g : Str → Str → Bool} : ROS K (rCmpU f g) (dCmp f g) := by
  intro W x y d e z Q k hx hy hf q
  unfold dCmp at hf
  split at hf
  · cases hf; cases hx; cases hy
    exact .inl ⟨_, _, rfl, rfl, q _ fun H => .bl _⟩
  · cases hf; cases hx; cases hy
    exact .inr ⟨_, _, rfl, rfl, q _ fun H => .bl _⟩
  · cases hf
abbrev rLtU : R2 := rCmpU (fun i j => decide (i < j)) (fun i j => decide (i.cps.toList < j.cps.toList))
abbrev rLeU : R2 := rCmpU (fun i j => decide (i ≤ j)) (fun i j => !decide (j.cps.toList < i.cps.toList))
abbrev rGtU : R2 := rCmpU (fun i j => decide (j < i)) (fun i j => decide (j.cps.toList < i.cps.toList))
abbrev rGeU : R2 := rCmpU (fun i j => decide (j ≤ i)) (fun i j => !decide (i.cps.toList < j.cps.toList))
abbrev dLt : D → D → Option D := dCmp (fun i j => decide (i < j)) (fun i j => decide (i.cps.toList < j.cps.toList))
abbrev dLe : D → D → Option D := dCmp (fun i j => decide (i ≤ j)) (fun i j => !decide (j.cps.toList < i.cps.toList))
abbrev dGt : D → D → Option D := dCmp (fun i j => decide (j < i)) (fun i j => decide (j.cps.toList < i.cps.toList))
abbrev dGe : D → D → Option D := dCmp (fun i j => decide (j ≤ i)) (fun i j => !decide (i.cps.toList < j.cps.toList))
section
variable {X : Cx}
theorem op_ltU : OpR X (compareOp .Lt) rLtU := op_lt.or op_lt_str
theorem op_leU : OpR X (compareOp .LtE) rLeU := op_le.or op_le_str
theorem op_gtU : OpR X (compareOp .Gt) rGtU := op_gt.or op_gt_str
theorem op_geU : OpR X (compareOp .GtE) rGeU := op_ge.or op_ge_str
end

/-! ### ==, != -/
def dEqG (x y : D) : Option Bool := match x.py, y.py with
  | some p, some q => if SeqAt.shaped p = true ∧ SeqAt.shaped q = true then some (PyData.eqv p q) else none
  | _, _ => none
def dEqB : D → D → Option Bool
  | .int i, .int j => some (decide (i = j))
  | .str a, .str b => some (decide (a = b))
  | x, y => dEqG x y
def dEq (x y : D) : Option D := (dEqB x y).map .bl
def dNe (x y : D) : Option D := (dEqB x y).map fun b => .bl (!b)
theorem shaped_int (i : Int) : SeqAt.shaped (.int i) = true := by simp [SeqAt.shaped, PyData.canLay0, PyData.depth]
theorem dEqB_run {K : KW} {H H' : Hp} (e : Same H H') {x y : V} {d f : D} {b : Bool} (hx : Den K H x d) (hy : Den K H y f) (h : dEqB d f = some b) :
    (∃ p q, Dp K H' x p ∧ Dp K H' y q ∧ SeqAt.shaped p = true ∧ SeqAt.shaped q = true ∧ PyData.eqv p q = b) ∨ (scal x y = true ∧ decide (x = y) = b) := by
  unfold dEqB at h
  split at h
  · cases h; cases hx; cases hy
    exact .inl ⟨_, _, .int _, .int _, shaped_int _, shaped_int _, by simp only [PyData.eqv]; exact Bool.beq_eq_decide_eq _ _⟩
  · cases h; cases hx; cases hy
    exact .inr ⟨rfl, by simp⟩
  · unfold dEqG at h
    split at h
    · rename_i p q hp hq
      split at h
      · rename_i hs
        cases h
        exact .inl ⟨p, q, (Den.dp _ _ _ (hx.up e) hp), (Den.dp _ _ _ (hy.up e) hq), hs.1, hs.2, rfl⟩
      · cases h
    · cases h
def rEqU (K : PySem.W.Frag) : R2 := fun x y H Q => rEqD K x y H Q ∨ rEq x y H Q
def rNeU (K : PySem.W.Frag) : R2 := fun x y H Q => rNeD K x y H Q ∨ rNe x y H Q
theorem op_eqU {X : Cx} (hu : X.A.units + 64 < cLine) : OpR X (compareOp .Eq) (rEqU X.K) := (op_eqD hu).or op_eq
theorem op_neU {X : Cx} (hu : X.A.units + 64 < cLine) : OpR X (compareOp .NotEq) (rNeU X.K) := (op_neD hu).or op_ne
theorem ros_eq {K : KW} : ROS K (rEqU K) dEq := by
  intro W x y d e z Q k hx hy hf q
  simp only [dEq, Option.map_eq_some_iff] at hf
  obtain ⟨b, h1, h2⟩ := hf
  subst h2
  rcases dEqB_run k.gh hx hy h1 with ⟨p, r, a1, a2, a3, a4, a5⟩ | ⟨a1, a2⟩
  · exact .inl ⟨p, r, a1, a2, a3, a4, by rw [a5]; exact q _ fun H => .bl _⟩
  · exact .inr ⟨a1, by rw [a2]; exact q _ fun H => .bl _⟩
theorem ros_ne {K : KW} : ROS K (rNeU K) dNe := by
  intro W x y d e z Q k hx hy hf q
  simp only [dNe, Option.map_eq_some_iff] at hf
  obtain ⟨b, h1, h2⟩ := hf
  subst h2
  rcases dEqB_run k.gh hx hy h1 with ⟨p, r, a1, a2, a3, a4, a5⟩ | ⟨a1, a2⟩
  · exact .inl ⟨p, r, a1, a2, a3, a4, by rw [a5]; exact q _ fun H => .bl _⟩
  · exact .inr ⟨a1, by rw [a2]; exact q _ fun H => .bl _⟩

/-! ### in, is -/
def D.items : D → Option (List D)
  | .lst ds => some ds | .tup ds => some ds | .scr ds => some ds | _ => none
theorem den_items {K : KW} {H : Hp} {v : V} {d : D} {ds : List D} (h : Den K H v d) (e : d.items = some ds) : ∃ a xs, v = .ref a ∧ (SqL K H a xs ∨ SqT K H a xs) ∧ DenL K H xs ds := by
  cases h <;> simp [D.items] at e <;> subst e
  · exact ⟨_, _, rfl, .inr (by assumption), by assumption⟩
  · exact ⟨_, _, rfl, .inl (SqL.of (by assumption)), by assumption⟩
  · exact ⟨_, _, rfl, .inl (by assumption), by assumption⟩
theorem denL_scal {K : KW} {H : Hp} : ∀ {ds : List D} {vs : List V}, DenL K H vs ds → ds.all D.scal = true → vs = ds.map D.toV
  | [], _, h, _ => by cases h; rfl
  | d :: ds, _, h, e => by
    cases h with
    | cons h1 h2 =>
      rw [List.all_cons, Bool.and_eq_true] at e
      rw [den_scal h1 e.1, denL_scal h2 e.2]
      rfl
theorem flat_toV : ∀ d : D, flatV d.toV = true := by intro d; cases d <;> rfl
theorem flat_all (ds : List D) : (ds.map D.toV).all flatV = true := by
  rw [List.all_map, List.all_eq_true]
  intro d _
  exact flat_toV d
/-! dicts -/
def dHas (b : Bool) (ks : List D) (k : NestedKey) : Bool := ks.any fun x => decide (x.kk b = some k)
def dAt (b : Bool) : List D → List D → NestedKey → Option D
  | x :: ks, d :: ds, k => if x.kk b = some k then some d else dAt b ks ds k
  | _, _, _ => none
theorem dAt_has (b : Bool) (k : NestedKey) : ∀ (ks ds : List D), ks.length = ds.length → (dAt b ks ds k).isSome = dHas b ks k
  | [], [], _ => rfl
  | [], _ :: _, h => by simp at h
  | _ :: _, [], h => by simp at h
  | x :: ks, d :: ds, h => by
    have ih := dAt_has b k ks ds (by simpa using h)
    show (if x.kk b = some k then some d else dAt b ks ds k).isSome = (decide (x.kk b = some k) || dHas b ks k)
    by_cases e : x.kk b = some k
    · rw [if_pos e, decide_eq_true e]; rfl
    · rw [if_neg e, decide_eq_false e, Bool.false_or]; exact ih
def nkK : L2.Key → NestedKey
  | .inl i => .num i
  | .inr x => .text x
theorem kk_kD (q : L2.Key) : (kD q).kk false = some (nkK q) := by cases q <;> rfl
theorem nkK_inj {p q : L2.Key} (h : nkK p = nkK q) : p = q := by
  cases p <;> cases q <;> cases h <;> rfl
/-- what is there, told as data -/
def RelDO (K : KW) (H : Hp) : Option V → Option D → Prop
  | some v, some d => Den K H v d
  | none, none => True
  | _, _ => False
theorem RelDO.isSome {K : KW} {H : Hp} {o : Option V} {z : Option D} (h : RelDO K H o z) : o.isSome = z.isSome := by
  cases o <;> cases z <;> first | rfl | exact h.elim
theorem rel_K {K : KW} {H : Hp} (key : L2.Key) : ∀ (kvs : List (L2.Key × V)) (ds : List D), DenL K H (kvs.map (·.2)) ds → RelDO K H (valV kvs key) (dAt false (kvs.map fun p => kD p.1) ds (nkK key))
  | [], _, h => by cases h; exact True.intro
  | p :: kvs, _, h => by
    cases h with
    | @cons _ _ d ds h1 h2 =>
      show RelDO K H _ (if (kD p.1).kk false = some (nkK key) then some d else dAt false (kvs.map fun p => kD p.1) ds (nkK key))
      rw [kk_kD]
      by_cases e : p.1 = key
      · rw [valV_pos e, if_pos (by rw [e])]; exact h1
      · rw [valV_neg e, if_neg (fun z => e (nkK_inj (Option.some.inj z)))]; exact rel_K key kvs ds h2
theorem valN_nil {k : NestedKey} : valN [] k = none := rfl
theorem valN_pos {x : NE} {xs : List NE} {k : NestedKey} (e : x.1 = k) : valN (x :: xs) k = absV x.2.2 := by
  simp [valN, atKey, List.find?_cons, e]
theorem valN_neg {x : NE} {xs : List NE} {k : NestedKey} (e : ¬ x.1 = k) : valN (x :: xs) k = valN xs k := by
  simp [valN, atKey, List.find?_cons, e]
theorem rel_N {K : KW} {H : Hp} (k : NestedKey) : ∀ (xs : List NE) (ks ds : List D) (vs : List V), ks.map (D.kk true) = xs.map (fun x => some x.1) → Vals vs (xs.map (·.2.2)) → DenL K H vs ds → RelDO K H (valN xs k) (dAt true ks ds k)
  | [], ks, ds, vs, e, r, h => by
    cases ks with
    | nil => exact True.intro
    | cons _ _ => simp at e
  | x :: xs, ks, ds, vs, e, r, h => by
    cases ks with
    | nil => simp at e
    | cons y ks =>
      rw [List.map_cons] at r
      cases r with
      | cons r1 r2 =>
        cases h with
        | @cons _ _ d ds h1 h2 =>
          simp only [List.map_cons, List.cons.injEq] at e
          show RelDO K H _ (if y.kk true = some k then some d else dAt true ks ds k)
          by_cases q : x.1 = k
          · rw [valN_pos q, if_pos (by rw [e.1, q]), r1.abs]; exact h1
          · rw [valN_neg q, if_neg (fun z => q (by rw [e.1] at z; exact Option.some.inj z))]; exact rel_N k xs ks ds _ e.2 r2 h2
theorem denL_nk_at {K : KW} {H : Hp} : ∀ (xs : List NE) (ks : List D), DenL K H (xs.map fun x => V.ref x.2.1) ks → ks.map (D.kk true) = xs.map (fun x => some x.1) → ∀ x ∈ xs, NK K.k H x.2.1 x.1
  | [], _, _, _, _, h => by cases h
  | x :: xs, ks, h, e, y, hy => by
    rw [List.map_cons] at h
    cases h with
    | @cons _ _ d ds h1 h2 =>
      simp only [List.map_cons, List.cons.injEq] at e
      rcases List.mem_cons.mp hy with z | z
      · subst z
        obtain ⟨a, e1, e2⟩ := den_kk h1 e.1
        cases e1
        exact e2
      · exact denL_nk_at xs ds h2 e.2 y z
/-- what a dict gives -/
theorem nk_same {K : PySem.W.Frag} {H H' : Hp} (e : Same H H') : ∀ {v : V} {k : NestedKey}, NKey K H v k → NKey K H' v k := by
  have sT : ∀ {a : Addr} {xs : List V}, SqT K H a xs → SqT K H' a xs := fun {a xs} h => by
    rcases h with (h | ⟨o, h⟩) | h
    · exact .inl (.inl (e _ _ h))
    · exact .inl (.inr ⟨o, e _ _ h⟩)
    · exact .inr h
  intro v k h
  refine NKey.rec (motive_1 := fun v k _ => NKey K H' v k) (motive_2 := fun vs ks _ => NKeyL K H' vs ks) .non .bl .int .str (fun h _ ih => .tup (sT h) ih) .nil (fun _ _ ih1 ih2 => .cons ih1 ih2) h
theorem dct_get {K : KW} {H H' : Hp} (e : Same H H') {y x : V} {b : Bool} {ks ds : List D} {d : D} {k : NestedKey} (hy : Den K H y (.dct b ks ds)) (hx : Den K H' x d) (hk : d.kk b = some k) :
    ∃ a o, y = .ref a ∧ IsDX K.k K.w H a ∧ DGetX K.k K.w H' a x o ∧ o.isSome = dHas b ks k ∧ RelDO K H o (dAt b ks ds k) := by
  cases hy with
  | @dK a kvs _ _ h1 h2 h3 =>
    obtain ⟨key, e1, e2⟩ : ∃ key : L2.Key, x = kV key ∧ k = nkK key := by
      cases d with
      | int i => cases hk; cases hx; exact ⟨.inl i, rfl, rfl⟩
      | str s => cases hk; cases hx; exact ⟨.inr s, rfl, rfl⟩
      | _ => cases hk
    subst e1 e2 h2
    have r := rel_K (K := K) (H := H) key kvs ds h3
    have hl := h3.length
    exact ⟨a, _, rfl, .inl ⟨kvs, h1⟩, .inl (.inl ⟨kvs, key, rd_same e h1, rfl, rfl⟩), by rw [r.isSome, dAt_has _ _ _ _ (by simpa using hl)], r⟩
  | @dN a xs vs _ _ h1 h2 h3 h4 h5 =>
    obtain ⟨p, e1, e2⟩ := den_kk hx hk
    have r := rel_N (K := K) (H := H) k xs ks ds vs h3 h4 h5
    have l1 := h5.length
    have l2 := h2.length
    have l3 := Vals.length h4
    have dn : DN K.k K.w H a xs := ⟨h1, denL_nk_at xs ks h2 h3⟩
    have dn' : DN K.k K.w H' a xs := ⟨rd_same e h1, fun z hz => ⟨nk_same e (dn.2 z hz).1, (dn.2 z hz).2⟩⟩
    exact ⟨a, _, rfl, .inr ⟨xs, dn⟩, .inr ⟨xs, vs, k, p, dn', h4, e1, e2, rfl⟩, by rw [r.isSome, dAt_has _ _ _ _ (by simp at l2 l3; omega)], r⟩
theorem DGetX.up {K : PySem.W.Frag} {w : World} {H H' : Hp} (e : Same H H') {a : Addr} {y : V} {o : Option V} (h : DGetX K w H a y o) : DGetX K w H' a y o := by
  rcases h with (⟨kvs, k, h1, h2, h3⟩ | ⟨kvs, k, b, h1, h2, h3, h4⟩) | ⟨xs, vs, k, b, ⟨h1, h1'⟩, h2, h3, h4, h5⟩
  · exact .inl (.inl ⟨kvs, k, rd_same e h1, h2, h3⟩)
  · exact .inl (.inr ⟨kvs, k, b, rd_same e h1, h2, e _ _ h3, h4⟩)
  · exact .inr ⟨xs, vs, k, b, ⟨rd_same e h1, fun x hx => ⟨nk_same e (h1' x hx).1, (h1' x hx).2⟩⟩, h2, h3, ⟨nk_same e h4.1, h4.2⟩, h5⟩
theorem IsDX.up {K : PySem.W.Frag} {w : World} {H H' : Hp} (e : Same H H') {a : Addr} (h : IsDX K w H a) : IsDX K w H' a := by
  rcases h with ⟨kvs, h⟩ | ⟨xs, h, h'⟩
  · exact .inl ⟨kvs, rd_same e h⟩
  · exact .inr ⟨xs, rd_same e h, fun x hx => ⟨nk_same e (h' x hx).1, (h' x hx).2⟩⟩
/-- x in a row, where the items are data of any depth -/
def dInD (x : D) : D → Option Bool
  | .lst ds => match x.py, D.pyL ds with
    | some p, some ps => if SeqAt.shaped p = true ∧ SeqAt.shaped (.list ps) = true then some (ps.any fun z => PyData.eqv z p) else none
    | _, _ => none
  | .tup ds => match x.py, D.pyL ds with
    | some p, some ps => if SeqAt.shaped p = true ∧ SeqAt.shaped (.tuple ps) = true then some (ps.any fun z => PyData.eqv z p) else none
    | _, _ => none
  | _ => none
def rInDT (K : PySem.W.Frag) : R2 := fun x y H Q => ∃ d ds, Dp K H x d ∧ Dp K H y (.tuple ds) ∧ SeqAt.shaped d = true ∧ SeqAt.shaped (.tuple ds) = true ∧ Q (.bl (ds.any fun z => PyData.eqv z d)) H
def rNotInDT (K : PySem.W.Frag) : R2 := fun x y H Q => ∃ d ds, Dp K H x d ∧ Dp K H y (.tuple ds) ∧ SeqAt.shaped d = true ∧ SeqAt.shaped (.tuple ds) = true ∧ Q (.bl (!ds.any fun z => PyData.eqv z d)) H
theorem op_inDT {X : Cx} (hu : X.A.units + 65 < cLine) : OpR X (compareOp .In) (rInDT X.K) := by
  intro pins s σ H x y v u Q I rx ry h
  obtain ⟨d, ds, hd, he, sd, se, q⟩ := h
  obtain ⟨as, r1⟩ := Dp.reads I d x v hd rx
  obtain ⟨bs, r2⟩ := Dp.reads I (.tuple ds) y u he ry
  exact SeqAt.in_tuple_reads r2 r1 (SeqAt.canLay_of_shaped se) (SeqAt.canLay_of_shaped sd) (room_in_shaped sd hu) ⟨.bl _, H, I, rfl, q⟩
theorem op_notInDT {X : Cx} (hu : X.A.units + 65 < cLine) : OpR X (compareOp .NotIn) (rNotInDT X.K) := by
  intro pins s σ H x y v u Q I rx ry h
  obtain ⟨d, ds, hd, he, sd, se, q⟩ := h
  obtain ⟨as, r1⟩ := Dp.reads I d x v hd rx
  obtain ⟨bs, r2⟩ := Dp.reads I (.tuple ds) y u he ry
  exact SeqAt.notIn_tuple_reads r2 r1 (SeqAt.canLay_of_shaped se) (SeqAt.canLay_of_shaped sd) (room_in_shaped sd hu) ⟨.bl _, H, I, rfl, q⟩
theorem Room.units1 {k : Nat} {A : Around} (r : Room k A) : A.units + 65 < cLine := by have := r.un; omega
theorem dInD_run {K : KW} {H H' : Hp} (e : Same H H') {x y : V} {d f : D} {b : Bool} (hx : Den K H x d) (hy : Den K H y f) (h : dInD d f = some b) :
    ∃ p ps, Dp K H' x p ∧ SeqAt.shaped p = true ∧ (ps.any fun z => PyData.eqv z p) = b ∧ (Dp K H' y (.list ps) ∧ SeqAt.shaped (.list ps) = true ∨ Dp K H' y (.tuple ps) ∧ SeqAt.shaped (.tuple ps) = true) := by
  unfold dInD at h
  split at h
  · split at h
    · rename_i p ps hp hps
      split at h
      · rename_i hs
        cases h
        exact ⟨p, ps, Den.dp _ _ _ (hx.up e) hp, hs.1, rfl, .inl ⟨Den.dp _ _ _ (hy.up e) (by unfold D.py; rw [hps]; rfl), hs.2⟩⟩
      · cases h
    · cases h
  · split at h
    · rename_i p ps hp hps
      split at h
      · rename_i hs
        cases h
        exact ⟨p, ps, Den.dp _ _ _ (hx.up e) hp, hs.1, rfl, .inr ⟨Den.dp _ _ _ (hy.up e) (by unfold D.py; rw [hps]; rfl), hs.2⟩⟩
      · cases h
    · cases h
  · cases h
def dInB : D → D → Option Bool
  | .str a, .str b => match a.cps.toList with
    | [c] => some (decide (c ∈ b.cps.toList))
    | _ => none
  | x, .dct b ks _ => match x.kk b with
    | some k => some (dHas b ks k)
    | none => none
  | x, y => match y.items with
    | some ds => if x.scal = true ∧ ds.all D.scal = true then some ((ds.map D.toV).any fun v => eqV v x.toV) else dInD x y
    | none => none
def dIn (x y : D) : Option D := (dInB x y).map .bl
def dNotIn (x y : D) : Option D := (dInB x y).map fun b => .bl (!b)
def rInU (K : PySem.W.Frag) (w : World) : R2 := fun x y H Q => rIn K false x y H Q ∨ (∃ (c : Nat) (z : Str), x = .str ⟨#[c]⟩ ∧ y = .str z ∧ Q (.bl (decide (c ∈ z.cps.toList))) H) ∨ (∃ a o, y = .ref a ∧ DGetX K w H a x o ∧ Q (.bl o.isSome) H) ∨ rInD K x y H Q ∨ rInDT K x y H Q
def rNotInU (K : PySem.W.Frag) (w : World) : R2 := fun x y H Q => rIn K true x y H Q ∨ (∃ (c : Nat) (z : Str), x = .str ⟨#[c]⟩ ∧ y = .str z ∧ Q (.bl (!decide (c ∈ z.cps.toList))) H) ∨ (∃ a o, y = .ref a ∧ DGetX K w H a x o ∧ Q (.bl (!o.isSome)) H) ∨ rNotInD K x y H Q ∨ rNotInDT K x y H Q
theorem op_inU {X : Cx} (hu : X.A.units + 65 < cLine) : OpR X (compareOp .In) (rInU X.K X.w) := op_in_seq.or (op_in_sign.or ((op_dinX rfl rfl (by omega)).or ((op_inD hu).or (op_inDT hu))))
theorem op_notInU {X : Cx} (hu : X.A.units + 65 < cLine) : OpR X (compareOp .NotIn) (rNotInU X.K X.w) := op_notIn_seq.or (op_notIn_sign.or ((op_dnotinX rfl rfl (by omega)).or ((op_notInD hu).or (op_notInDT hu))))
theorem str_one {a : Str} {c : Nat} (h : a.cps.toList = [c]) : a = ⟨#[c]⟩ := by
  cases a with
  | mk cps =>
    have e : cps = #[c] := by
      apply Array.toList_inj.mp
      exact h
    rw [e]
theorem dInB_run {K : KW} {W : Wd} (k : WOk W) {x y : V} {d f : D} {b : Bool} (hx : Den K W.G x d) (hy : Den K W.G y f) (h : dInB d f = some b) :
    (∃ p xs, y = .ref p ∧ (SqL K W.H p xs ∨ SqT K W.H p xs) ∧ flatV x = true ∧ xs.all flatV = true ∧ inV x xs = b) ∨ (∃ (c : Nat) (z : Str), x = .str ⟨#[c]⟩ ∧ y = .str z ∧ decide (c ∈ z.cps.toList) = b) ∨ (∃ a o, y = .ref a ∧ DGetX K.k K.w W.H a x o ∧ o.isSome = b) ∨
    ∃ p ps, Dp K W.H x p ∧ SeqAt.shaped p = true ∧ (ps.any fun z => PyData.eqv z p) = b ∧ (Dp K W.H y (.list ps) ∧ SeqAt.shaped (.list ps) = true ∨ Dp K W.H y (.tuple ps) ∧ SeqAt.shaped (.tuple ps) = true) := by
  unfold dInB at h
  split at h
  · split at h
    · rename_i c hc
      cases h; cases hx; cases hy
      rw [str_one hc]
      exact .inr (.inl ⟨_, _, rfl, rfl, rfl⟩)
    · cases h
  · split at h
    · rename_i kx hkx
      cases h
      obtain ⟨a, o, e1, _, e2, e3, _⟩ := dct_get (Same.refl _) hy hx hkx
      exact .inr (.inr (.inl ⟨a, o, e1, e2.up k.gh, e3⟩))
    · cases h
  · split at h
    · rename_i ds hds
      split at h
      · rename_i hs
        cases h
        obtain ⟨a, xs, rfl, hs1, hd⟩ := den_items hy hds
        refine .inl ⟨a, xs, rfl, ?_, ?_, ?_, ?_⟩
        · rcases hs1 with z | z
          · exact .inl (k.gh.seq z)
          · exact .inr (sqT_same k.gh z)
        · rw [den_scal hx hs.1]; exact flat_toV _
        · rw [denL_scal hd hs.2]; exact flat_all ds
        · rw [den_scal hx hs.1, denL_scal hd hs.2]; rfl
      · exact .inr (.inr (.inr (dInD_run k.gh hx hy h)))
    · cases h
theorem ros_in {K : KW} : ROS K (rInU K.k K.w) dIn := by
  intro W x y d e z Q k hx hy hf q
  simp only [dIn, Option.map_eq_some_iff] at hf
  obtain ⟨b, h1, h2⟩ := hf
  subst h2
  rcases dInB_run k hx hy h1 with ⟨p, xs, a1, a2, a3, a4, a5⟩ | ⟨c, w, a1, a2, a3⟩ | ⟨a, o, a1, a2, a3⟩ | ⟨p, ps, a1, a2, a3, ⟨a4, a5⟩ | ⟨a4, a5⟩⟩
  · exact .inl ⟨p, xs, a1, a2, a3, a4, by rw [a5]; exact q _ fun H => .bl _⟩
  · exact .inr (.inl ⟨c, w, a1, a2, by rw [a3]; exact q _ fun H => .bl _⟩)
  · exact .inr (.inr (.inl ⟨a, o, a1, a2, by rw [a3]; exact q _ fun H => .bl _⟩))
  · exact .inr (.inr (.inr (.inl ⟨p, ps, a1, a4, a2, a5, by rw [a3]; exact q _ fun H => .bl _⟩)))
  · exact .inr (.inr (.inr (.inr ⟨p, ps, a1, a4, a2, a5, by rw [a3]; exact q _ fun H => .bl _⟩)))
theorem ros_notIn {K : KW} : ROS K (rNotInU K.k K.w) dNotIn := by
  intro W x y d e z Q k hx hy hf q
  simp only [dNotIn, Option.map_eq_some_iff] at hf
  obtain ⟨b, h1, h2⟩ := hf
  subst h2
  rcases dInB_run k hx hy h1 with ⟨p, xs, a1, a2, a3, a4, a5⟩ | ⟨c, w, a1, a2, a3⟩ | ⟨a, o, a1, a2, a3⟩ | ⟨p, ps, a1, a2, a3, ⟨a4, a5⟩ | ⟨a4, a5⟩⟩
  · exact .inl ⟨p, xs, a1, a2, a3, a4, by rw [a5]; exact q _ fun H => .bl _⟩
  · exact .inr (.inl ⟨c, w, a1, a2, by rw [a3]; exact q _ fun H => .bl _⟩)
  · exact .inr (.inr (.inl ⟨a, o, a1, a2, by rw [a3]; exact q _ fun H => .bl _⟩))
  · exact .inr (.inr (.inr (.inl ⟨p, ps, a1, a4, a2, a5, by rw [a3]; exact q _ fun H => .bl _⟩)))
  · exact .inr (.inr (.inr (.inr ⟨p, ps, a1, a4, a2, a5, by rw [a3]; exact q _ fun H => .bl _⟩)))
def D.isNon : D → Bool
  | .non => true | _ => false
theorem den_non {K : KW} {H : Hp} {v : V} {d : D} (h : Den K H v d) : decide (v = .non) = d.isNon := by
  cases h <;> simp [D.isNon]
def dIs : D → D → Option D
  | x, .non => some (.bl x.isNon)
  | _, _ => none
def dIsNot : D → D → Option D
  | x, .non => some (.bl (!x.isNon))
  | _, _ => none
def rIsNU : R2 := fun x y H Q => y = .non ∧ Q (.bl (decide (x = .non))) H
def rIsNotNU : R2 := fun x y H Q => y = .non ∧ Q (.bl (!decide (x = .non))) H
theorem op_isU {X : Cx} : OpR X (compareOp .Is) rIsNU := op_isN
theorem op_isNotU {X : Cx} : OpR X (compareOp .IsNot) rIsNotNU := op_notN
theorem ros_is {K : KW} : ROS K rIsNU dIs := by
  intro W x y d e z Q k hx hy hf q
  unfold dIs at hf
  split at hf
  · cases hf; cases hy
    exact ⟨rfl, by rw [den_non hx]; exact q _ fun H => .bl _⟩
  · cases hf
theorem ros_isNot {K : KW} : ROS K rIsNotNU dIsNot := by
  intro W x y d e z Q k hx hy hf q
  unfold dIsNot at hf
  split at hf
  · cases hf; cases hy
    exact ⟨rfl, by rw [den_non hx]; exact q _ fun H => .bl _⟩
  · cases hf

/-! ### tests -/
def gB (g : GE) : GB := fun c => match g c with
  | some (.bl b) => some b
  | _ => none
theorem gB_some {g : GE} {c : Env} {b : Bool} (h : gB g c = some b) : g c = some (.bl b) := by
  unfold gB at h
  split at h
  · cases h; assumption
  · cases h
section
variable {K : KW} {b b1 b2 : Bool} {te ta tb tc : TE} {g ga gb gc : GE} {tt tu : TT} {p q : GB}
theorem vb_test (h : VT K W0 b te g) : VB K W0 (tTest te) (gB g) := by
  intro W σ c d Q k u s e q
  exact h W σ c _ _ k u s (gB_some e) fun W' v k' g' hd => by cases hd; exact ⟨_, rfl, q W' k' g'⟩
theorem vb_tB (h : VT K W0 b te g) : VB K W0 (tB te) (gB g) := by
  intro W σ c d Q k u s e q
  exact h W σ c _ _ k u s (gB_some e) fun W' v k' g' hd => by cases hd; exact ⟨_, rfl, q W' k' g'⟩
def D.tru : D → Option Bool
  | .non => some false | .bl b => some b | .int i => some (decide (i ≠ 0))
  | .str x => if x.length ≤ sizeLine then some (decide (x.length ≠ 0)) else none
  | .tup ds => some (!ds.isEmpty) | .lst ds => some (!ds.isEmpty) | .scr ds => some (!ds.isEmpty)
  | .ins _ _ _ => none
  | .dct _ _ _ => none
def gTru (g : GE) : GB := fun c => match g c with
  | some d => d.tru
  | none => none
theorem denL_empty {K : KW} {H : Hp} {vs : List V} {ds : List D} (h : DenL K H vs ds) : vs.isEmpty = ds.isEmpty := by
  cases h <;> rfl
theorem tru_run {K : KW} {H : Hp} {v : V} {d : D} {r : Bool} (h : Den K H v d) (e : d.tru = some r) : TruV K v H r := by
  cases h with
  | non => cases e; rfl
  | bl b => cases e; rfl
  | int i => cases e; show _ = (i != 0); simp [bne, Bool.beq_eq_decide_eq]
  | str x =>
    simp only [D.tru] at e
    split at e
    · rename_i hz
      cases e
      refine ⟨hz, ?_⟩
      by_cases h0 : x.length = 0 <;> simp [h0, bne]
    · cases e
  | tup h1 h2 => cases e; exact .inr (.inl ⟨_, h1, by rw [denL_empty h2]⟩)
  | lst h1 h2 => cases e; exact .inl ⟨_, SqL.of h1, by rw [denL_empty h2]⟩
  | scr h1 h2 => cases e; exact .inl ⟨_, h1, by rw [denL_empty h2]⟩
  | ins h1 h2 h3 => cases e
  | dK _ _ _ => cases e
  | dN _ _ _ _ _ => cases e
theorem vb_tru (h : VT K W0 b te g) : VB K W0 (fun σ H Q => te σ H fun x H' => ∃ k, TruV K x H' k ∧ Q k H') (gTru g) := by
  intro W σ c d Q k u s e q
  unfold gTru at e
  split at e
  · rename_i x hx
    exact h W σ c _ _ k u s hx fun W' v k' g' hd => ⟨d, tru_run (hd.up (k'.atH b)) e, q W' k' g'⟩
  · cases e
def gNot (p : GB) : GB := fun c => (p c).map fun b => !b
def gAnd (p q : GB) : GB := fun c => match p c with
  | some true => q c
  | some false => some false
  | none => none
def gOr (p q : GB) : GB := fun c => match p c with
  | some true => some true
  | some false => q c
  | none => none
theorem vb_not (h : VB K W0 tt p) : VB K W0 (tNot tt) (gNot p) := by
  intro W σ c d Q k u s e q
  simp only [gNot, Option.map_eq_some_iff] at e
  obtain ⟨r, e1, e2⟩ := e
  subst e2
  exact h W σ c r _ k u s e1 fun W' k' g' => q W' k' g'
theorem vb_and (h : VB K W0 tt p) (h' : VB K W0 tu q) : VB K W0 (tAnd tt tu) (gAnd p q) := by
  intro W σ c d Q k u s e qq
  unfold gAnd at e
  split at e
  · rename_i e1
    refine h W σ c _ _ k u s e1 fun W' k' g' => ?_
    rw [if_pos rfl]
    exact h' W' σ c _ _ k' (u.gr g') (s.gr g') e fun W2 k2 g2 => qq W2 k2 (g'.trans g2)
  · rename_i e1
    cases e
    refine h W σ c _ _ k u s e1 fun W' k' g' => ?_
    rw [if_neg Bool.false_ne_true]
    exact qq W' k' g'
  · cases e
theorem vb_or (h : VB K W0 tt p) (h' : VB K W0 tu q) : VB K W0 (tOr tt tu) (gOr p q) := by
  intro W σ c d Q k u s e qq
  unfold gOr at e
  split at e
  · rename_i e1
    cases e
    refine h W σ c _ _ k u s e1 fun W' k' g' => ?_
    rw [if_pos rfl]
    exact qq W' k' g'
  · rename_i e1
    refine h W σ c _ _ k u s e1 fun W' k' g' => ?_
    rw [if_neg Bool.false_ne_true]
    exact h' W' σ c _ _ k' (u.gr g') (s.gr g') e fun W2 k2 g2 => qq W2 k2 (g'.trans g2)
  · cases e
/-- .. as values -/
def gBl (p : GB) : GE := fun c => (p c).map .bl
theorem vt_andV (h : VT K W0 b1 ta ga) (h' : VT K W0 b2 tb gb) : VT K W0 b (tAndV ta tb) (gBl (gAnd (gB ga) (gB gb))) := by
  intro W σ c d Q k u s e qq
  simp only [gBl, Option.map_eq_some_iff] at e
  obtain ⟨r, e, e2⟩ := e
  subst e2
  unfold gAnd at e
  split at e
  · rename_i e1
    refine h W σ c _ _ k u s (gB_some e1) fun W' v k' g' hd => ?_
    cases hd
    refine ⟨_, rfl, ?_⟩
    rw [if_pos rfl]
    exact h' W' σ c _ _ k' (u.gr g') (s.gr g') (gB_some e) fun W2 v k2 g2 hd => by cases hd; exact qq W2 _ k2 (g'.trans g2) (.bl _)
  · rename_i e1
    cases e
    refine h W σ c _ _ k u s (gB_some e1) fun W' v k' g' hd => ?_
    cases hd
    refine ⟨_, rfl, ?_⟩
    rw [if_neg Bool.false_ne_true]
    exact qq W' _ k' g' (.bl _)
  · cases e
theorem vt_orV (h : VT K W0 b1 ta ga) (h' : VT K W0 b2 tb gb) : VT K W0 b (tOrV ta tb) (gBl (gOr (gB ga) (gB gb))) := by
  intro W σ c d Q k u s e qq
  simp only [gBl, Option.map_eq_some_iff] at e
  obtain ⟨r, e, e2⟩ := e
  subst e2
  unfold gOr at e
  split at e
  · rename_i e1
    cases e
    refine h W σ c _ _ k u s (gB_some e1) fun W' v k' g' hd => ?_
    cases hd
    refine ⟨_, rfl, ?_⟩
    rw [if_pos rfl]
    exact qq W' _ k' g' (.bl _)
  · rename_i e1
    refine h W σ c _ _ k u s (gB_some e1) fun W' v k' g' hd => ?_
    cases hd
    refine ⟨_, rfl, ?_⟩
    rw [if_neg Bool.false_ne_true]
    exact h' W' σ c _ _ k' (u.gr g') (s.gr g') (gB_some e) fun W2 v k2 g2 hd => by cases hd; exact qq W2 _ k2 (g'.trans g2) (.bl _)
  · cases e
theorem vt_notV (h : VT K W0 b1 ta ga) : VT K W0 b (tNotV ta) (gBl (gNot (gB ga))) := by
  intro W σ c d Q k u s e qq
  simp only [gBl, gNot, Option.map_eq_some_iff] at e
  obtain ⟨r, ⟨r', e, e2⟩, e3⟩ := e
  subst e2 e3
  exact h W σ c _ _ k u s (gB_some e) fun W' v k' g' hd => by cases hd; exact ⟨_, rfl, qq W' _ k' g' (.bl _)⟩
/-- a chain x < y < z -/
def gChain (f f' : D → D → Option D) (ga gb gc : GE) : GE := fun c => match ga c with
  | some x => match gb c with
    | some y => match f x y with
      | some (.bl true) => match gc c with
        | some z => f' y z
        | none => none
      | some (.bl false) => some (.bl false)
      | _ => none
    | none => none
  | none => none
theorem vt_chain {b3 : Bool} {r r' : R2} {f f' : D → D → Option D} (hr : ROS K r f) (hr' : ROS K r' f') (ha : VT K W0 b1 ta ga) (hb : VT K W0 b2 tb gb) (hc : VT K W0 b3 tc gc) : VT K W0 b (tChain r r' ta tb tc) (gChain f f' ga gb gc) := by
  intro W σ c d Q k u s e q
  unfold gChain at e
  split at e
  · rename_i x hx
    split at e
    · rename_i y hy
      refine ha W σ c x _ k u s hx fun W1 v1 k1 g1 d1 => ?_
      refine hb W1 σ c y _ k1 (u.gr g1) (s.gr g1) hy fun W2 v2 k2 g2 d2 => ?_
      have c1 := d1.up ((g2.at b1).trans (k2.atG b1))
      have c2 := d2.up (k2.atG b2)
      split at e
      · rename_i hf
        refine hr W2 v1 v2 x y _ _ k2 c1 c2 hf fun v hv => ?_
        cases (hv W2.H)
        refine ⟨true, rfl, ?_⟩
        rw [if_pos rfl]
        split at e
        · rename_i z hz
          refine hc W2 σ c z _ k2 ((u.gr g1).gr g2) ((s.gr g1).gr g2) hz fun W3 v3 k3 g3 d3 => ?_
          exact hr' W3 v2 v3 y z d Q k3 (c2.up g3.g) (d3.up (k3.atG _)) e fun v hv => q W3 v k3 (g1.trans (g2.trans g3)) (hv _)
        · cases e
      · rename_i hf
        cases e
        refine hr W2 v1 v2 x y _ _ k2 c1 c2 hf fun v hv => ?_
        cases (hv W2.H)
        refine ⟨false, rfl, ?_⟩
        rw [if_neg Bool.false_ne_true]
        exact q W2 _ k2 (g1.trans g2) (.bl _)
      · cases e
    · cases e
  · cases e
/-- x if t else y -/
def gIfE (p : GB) (ga gb : GE) : GE := fun c => match p c with
  | some true => ga c
  | some false => gb c
  | none => none
theorem vt_ifE (h : VB K W0 tt p) (ha : VT K W0 b ta ga) (hb : VT K W0 b tb gb) : VT K W0 b (tIf tt ta tb) (gIfE p ga gb) := by
  intro W σ c d Q k u s e q
  unfold gIfE at e
  split at e
  · rename_i e1
    refine h W σ c _ _ k u s e1 fun W' k' g' => ?_
    rw [if_pos rfl]
    exact ha W' σ c _ _ k' (u.gr g') (s.gr g') e fun W2 v k2 g2 hd => q W2 v k2 (g'.trans g2) hd
  · rename_i e1
    refine h W σ c _ _ k u s e1 fun W' k' g' => ?_
    rw [if_neg Bool.false_ne_true]
    exact hb W' σ c _ _ k' (u.gr g') (s.gr g') e fun W2 v k2 g2 hd => q W2 v k2 (g'.trans g2) hd
  · cases e
def gNeg (ga : GE) : GE := fun c => (ga c).bind dNeg
theorem vt_neg (h : VT K W0 b1 ta ga) : VT K W0 b (tUn (rU fun i => .int (-i)) ta) (gNeg ga) := by
  intro W σ c d Q k u s e q
  unfold gNeg at e
  simp only [Option.bind_eq_some_iff] at e
  obtain ⟨x, e1, e2⟩ := e
  refine h W σ c _ _ k u s e1 fun W' v k' g' hd => ?_
  cases hd <;> simp [dNeg] at e2
  subst e2
  exact ⟨_, rfl, q W' _ k' g' (.int _)⟩

/-! ### arguments, displays -/
def gNil : GA := fun _ => some []
def gCons (g : GE) (gs : GA) : GA := fun c => match g c with
  | some d => match gs c with
    | some ds => some (d :: ds)
    | none => none
  | none => none
theorem gCons_some {g : GE} {gs : GA} {c : Env} {ds : List D} (h : gCons g gs c = some ds) : ∃ d r, g c = some d ∧ gs c = some r ∧ ds = d :: r := by
  unfold gCons at h
  split at h
  · rename_i x hx
    split at h
    · rename_i y hy
      cases h
      exact ⟨x, y, hx, hy, rfl⟩
    · cases h
  · cases h
theorem va_nil : VArg K W0 b tNil gNil := by
  intro W σ c ds Q k u s e q
  cases e
  exact q W [] k (Gr.refl W) .nil
theorem va_cons {ts : TA} {gs : GA} (h : VT K W0 b te g) (hs : VArg K W0 b ts gs) : VArg K W0 b (tCons te ts) (gCons g gs) := by
  intro W σ c ds Q k u s e q
  obtain ⟨d, r, e1, e2, rfl⟩ := gCons_some e
  refine h W σ c d _ k u s e1 fun W1 v k1 g1 d1 => ?_
  refine hs W1 σ c r _ k1 (u.gr g1) (s.gr g1) e2 fun W2 vs k2 g2 d2 => ?_
  exact q W2 (v :: vs) k2 (g1.trans g2) (.cons (d1.up (g2.at b)) d2)
def gTup (gs : GA) : GE := fun c => match gs c with
  | some ds => if ds.length ≤ sizeLine then some (.tup ds) else none
  | none => none
theorem vt_tup {ts : TA} {gs : GA} (hs : VArg K W0 b ts gs) : VT K W0 b (tTup ts) (gTup gs) := by
  intro W σ c d Q k u s e q
  unfold gTup at e
  split at e
  · rename_i ds hds
    split at e
    · rename_i hz
      cases e
      refine hs W σ c ds _ k u s hds fun W1 vs k1 g1 d1 => ⟨by rw [d1.length]; exact hz, fun p hp => ?_⟩
      exact q (W1.new b p _) _ (new_ok k1 hp) (g1.trans (new_gr k1 hp)) (.tup (SqT.of new_self) (new_denL k1 hp d1))
    · cases e
  · cases e
def gLen (gs : GA) : GA := fun c => match gs c with
  | some ds => if ds.length ≤ sizeLine then some ds else none
  | none => none
theorem vn_lst {ts : TA} {gs : GA} (hs : VArg K W0 true ts gs) : VN K W0 (tLst ts) (gLen gs) := by
  intro W σ c d Q k u s e q
  unfold gLen at e
  split at e
  · rename_i ds hds
    split at e
    · rename_i hz
      cases e
      refine hs W σ c _ _ k u s hds fun W1 vs k1 g1 d1 => ⟨by rw [d1.length]; exact hz, fun p hp => ?_⟩
      exact q W1 p vs k1 g1 hp d1
    · cases e
  · cases e

/-! ### subscripts -/
def dIx : D → D → Option D
  | .dct b ks ds, y => match y.kk b with
    | some k => dAt b ks ds k
    | none => none
  | .str x, .int i => if x.length ≤ sizeLine then (atI x.cps.toList i).map fun c => .str ⟨#[c]⟩ else none
  | x, .int i => match x.items with
    | some ds => atI ds i
    | none => none
  | _, _ => none
theorem denL_atI {H : Hp} {ds : List D} {vs : List V} {i : Int} {d : D} (h : DenL K H vs ds) (e : atI ds i = some d) : ∃ v, atI vs i = some v ∧ Den K H v d := by
  unfold atI at e ⊢
  rw [h.length]
  simp only [Option.bind_eq_some_iff] at e ⊢
  obtain ⟨j, e1, e2⟩ := e
  obtain ⟨v, e3, e4⟩ := h.get e2
  exact ⟨v, ⟨j, e1, e3⟩, e4⟩
def rIxU (K : PySem.W.Frag) (w : World) : R2 := fun x y H Q => rIx K x y H Q ∨ (∃ a v, x = .ref a ∧ DGetX K w H a y (some v) ∧ Q v H)
theorem ix_U {X : Cx} (hu : X.A.units + 64 < cLine) : IxR X (rIxU X.K X.w) := ix_seq.or (ix_dictX rfl rfl hu)
theorem dIx_run {H H1 H' : Hp} (e1 : Same H H1) (e : Same H1 H') {x y : V} {d f z : D} (hx : Den K H x d) (hy : Den K H1 y f) (h : dIx d f = some z) {Q : VK} (q : ∀ v, Den K H v z → Q v H') : rIxU K.k K.w x y H' Q := by
  unfold dIx at h
  split at h
  · split at h
    · rename_i k hk
      obtain ⟨a, o, e2, _, e3, _, e4⟩ := dct_get e1 hx hy hk
      rw [h] at e4
      cases o with
      | none => exact e4.elim
      | some v => exact .inr ⟨a, v, e2, e3.up e, q v e4⟩
    · cases h
  · split at h
    · rename_i hz
      cases hx; cases hy
      simp only [Option.map_eq_some_iff] at h
      obtain ⟨c, e1, e2⟩ := h
      subst e2
      exact .inl (.inr (.inr ⟨_, _, c, rfl, rfl, hz, e1, q _ (.str _)⟩))
    · cases h
  · split at h
    · rename_i ds hds
      cases hy
      obtain ⟨a, xs, rfl, hs, hd⟩ := den_items hx hds
      obtain ⟨v, e3, e4⟩ := denL_atI hd h
      rcases hs with hs | hs
      · exact .inl (.inl ⟨a, xs, _, v, rfl, rfl, (e1.trans e).seq hs, e3, q v e4⟩)
      · exact .inl (.inr (.inl ⟨a, xs, _, v, rfl, rfl, sqT_same (e1.trans e) hs, e3, q v e4⟩))
    · cases h
  · cases h
theorem ro_ix : RO K (rIxU K.k K.w) dIx := fun b W x y d e z Q k hx hy hf q => dIx_run (Same.refl _) (k.atH b) hx hy hf fun v hv => q W v k (Gr.refl W) hv
/-- x[i], x a name: the items are settled -/
theorem vt_ixv {i : Nat} {b2 : Bool} (hb : VT K W0 b2 tb gb) : VT K W0 b (tOp (rIxU K.k K.w) (tVar i) tb) (g2 dIx (gLook i) gb) := by
  intro W σ c d Q k u s e q
  obtain ⟨x, y, ex, ey, ef⟩ := g2_some e
  unfold gLook at ex
  split at ex
  · rename_i d' hc
    cases ex
    obtain ⟨z, hx, v, rfl, hd⟩ := s.at hc
    refine ⟨v, hx, hb W σ c y _ k u s ey fun W2 v2 k2 g2 d2 => ?_⟩
    exact dIx_run (H := W2.F) (H1 := W2.G) k2.fg k2.gh (hd.up g2.f) (d2.up (k2.atG b2)) ef fun v hv => q W2 v k2 g2 (hv.up (by cases b; exact k2.fg; exact Same.refl _))
  · rename_i ds hc
    cases ex
    obtain ⟨z, hx, l, vs, rfl, h1, h2, h3, h4, h5⟩ := s.at hc
    refine ⟨_, hx, hb W σ c y _ k u s ey fun W2 v2 k2 g2 d2 => ?_⟩
    cases y with
    | int j =>
      cases d2
      have e3 : atI ds j = some d := ef
      obtain ⟨v, e5, e6⟩ := denL_atI (h5.up g2.f) e3
      exact .inl (.inl ⟨l, vs, j, v, rfl, rfl, SqL.of (g2.h _ _ h1), e5, q W2 v k2 g2 (e6.up (by cases b; exact k2.fg; exact Same.refl _))⟩)
    | _ => simp [dIx] at ef
  · cases ex

/-! slices -/
abbrev GO := Env → Option (Option Int)
def VO (K : KW) (W0 : Wd) (to : TO) (g : GO) : Prop :=
  ∀ (W : Wd) (σ : L2.St) (c : Env) (d : Option Int) (Q : Option Int → Hp → Prop), WOk W → Up W0 W → SD K W0 W σ c → g c = some d → (∀ W', WOk W' → Gr W W' → Q d W'.H) → to σ W.H Q
def gPart (g : GE) : GO := fun c => match g c with
  | some (.int i) => some (some i)
  | _ => none
theorem vo_none : VO K W0 tNoPart (fun _ => some none) := by
  intro W σ c d Q k u s e q
  cases e
  exact q W k (Gr.refl W)
theorem vo_some (h : VT K W0 b te g) : VO K W0 (tPart te) (gPart g) := by
  intro W σ c d Q k u s e q
  unfold gPart at e
  split at e
  · rename_i i hi
    cases e
    exact h W σ c _ _ k u s hi fun W' v k' g' hd => by cases hd; exact ⟨_, rfl, q W' k' g'⟩
  · cases e
def cutD (ds : List D) (lo hi : Option Int) : List D := (ds.drop (HT.sIx ds.length 0 lo)).take (HT.sIx ds.length ds.length hi - HT.sIx ds.length 0 lo)
theorem denL_cut {H : Hp} {ds : List D} {vs : List V} (h : DenL K H vs ds) (lo hi : Option Int) : DenL K H (cutV vs lo hi) (cutD ds lo hi) := by
  unfold cutV cutD
  rw [h.length]
  exact (h.drop _).take _
def dCut (x : D) (lo hi : Option Int) : Option D := match x with
  | .str z => if z.length ≤ sizeLine then some (.str (cutS z lo hi)) else none
  | .tup ds => some (.tup (cutD ds lo hi))
  | .lst ds => some (.lst (cutD ds lo hi))
  | .scr ds => some (.lst (cutD ds lo hi))
  | _ => none
def rCutU (K : PySem.W.Frag) : V → Option Int → Option Int → Hp → VK → Prop := fun x lo hi H Q => rSlS x lo hi H Q ∨ rSlA K x lo hi H Q ∨ rSlL K x lo hi H Q
theorem sl_U {X : Cx} : SlR X (rCutU X.K) := sl_str.or (sl_tupA.or sl_list)
def gCut (g : GE) (gl gh : GO) : GE := fun c => match g c with
  | some x => match gl c with
    | some lo => match gh c with
      | some hi => dCut x lo hi
      | none => none
    | none => none
  | none => none
theorem vt_cut {tl th : TO} {gl gh : GO} (he : VT K W0 b te g) (hl : VO K W0 tl gl) (hh : VO K W0 th gh) : VT K W0 b (tSl (rCutU K) te tl th) (gCut g gl gh) := by
  intro W σ c d Q k u s e q
  unfold gCut at e
  split at e
  · rename_i x hx
    split at e
    · rename_i lo hlo
      split at e
      · rename_i hi hhi
        refine he W σ c x _ k u s hx fun W1 v k1 g1 d1 => ?_
        refine hl W1 σ c lo _ k1 (u.gr g1) (s.gr g1) hlo fun W2 k2 g2 => ?_
        refine hh W2 σ c hi _ k2 ((u.gr g1).gr g2) ((s.gr g1).gr g2) hhi fun W3 k3 g3 => ?_
        have d3 := d1.up ((g2.trans g3).at b)
        have gg := g1.trans (g2.trans g3)
        unfold dCut at e
        split at e
        · split at e
          · rename_i hz
            cases e; cases d3
            exact .inl ⟨_, rfl, hz, q W3 _ k3 gg (.str _)⟩
          · cases e
        · cases e
          cases d3 with
          | tup h1 h2 =>
            refine .inr (.inl ⟨_, _, rfl, sqT_same (k3.atH b) h1, fun hw => ?_, fun hw p hp => ?_⟩)
            · refine q W3 _ k3 gg (.tup h1 ?_)
              unfold cutD
              rw [h2.length] at hw
              rw [hw.1, hw.2, Nat.sub_zero, List.drop_zero, List.take_length]
              exact h2
            · exact q (W3.new b p _) _ (new_ok k3 hp) (gg.trans (new_gr k3 hp)) (.tup (SqT.of new_self) (new_denL k3 hp (denL_cut h2 _ _)))
        · cases e
          cases d3 with
          | lst h1 h2 =>
            refine .inr (.inr ⟨_, _, rfl, SqL.of (k3.atH b _ _ h1), fun p hp => ?_⟩)
            exact q (W3.new b p _) _ (new_ok k3 hp) (gg.trans (new_gr k3 hp)) (.lst new_self (new_denL k3 hp (denL_cut h2 _ _)))
        · cases e
          cases d3 with
          | scr h1 h2 =>
            refine .inr (.inr ⟨_, _, rfl, (k3.atH b).seq h1, fun p hp => ?_⟩)
            exact q (W3.new b p _) _ (new_ok k3 hp) (gg.trans (new_gr k3 hp)) (.lst new_self (new_denL k3 hp (denL_cut h2 _ _)))
        · cases e
      · cases e
    · cases e
  · cases e

/-! ### calls of built-ins, by values -/
/-- the call rule r does f; its value as settled as its arguments -/
def RC (K : KW) (r : List V → Hp → VK → Prop) (f : List D → Option D) : Prop :=
  ∀ (b : Bool) (W : Wd) (xs : List V) (ds : List D) (z : D) (Q : VK), WOk W → DenL K (W.at b) xs ds → f ds = some z → (∀ W' v, WOk W' → Gr W W' → Den K (W'.at b) v z → Q v W'.H) → r xs W.H Q
def RCS (K : KW) (r : List V → Hp → VK → Prop) (f : List D → Option D) : Prop :=
  ∀ (W : Wd) (xs : List V) (ds : List D) (z : D) (Q : VK), WOk W → DenL K W.G xs ds → f ds = some z → (∀ v, (∀ H, Den K H v z) → Q v W.H) → r xs W.H Q
def gCall (f : List D → Option D) (gs : GA) : GE := fun c => match gs c with
  | some ds => f ds
  | none => none
theorem gCall_some {f : List D → Option D} {gs : GA} {c : Env} {d : D} (h : gCall f gs c = some d) : ∃ ds, gs c = some ds ∧ f ds = some d := by
  unfold gCall at h
  split at h
  · exact ⟨_, by assumption, h⟩
  · cases h
theorem vt_cb {r : List V → Hp → VK → Prop} {f : List D → Option D} {ts : TA} {gs : GA} (hr : RC K r f) (hs : VArg K W0 b ts gs) : VT K W0 b (tCB r ts) (gCall f gs) := by
  intro W σ c d Q k u s e q
  obtain ⟨ds, e1, e2⟩ := gCall_some e
  refine hs W σ c ds _ k u s e1 fun W1 vs k1 g1 d1 => ?_
  exact hr b W1 vs ds d Q k1 d1 e2 fun W2 v k2 g2 hd => q W2 v k2 (g1.trans g2) hd
theorem vt_cbS {r : List V → Hp → VK → Prop} {f : List D → Option D} {ts : TA} {gs : GA} (hr : RCS K r f) (hs : VArg K W0 b1 ts gs) : VT K W0 b (tCB r ts) (gCall f gs) := by
  intro W σ c d Q k u s e q
  obtain ⟨ds, e1, e2⟩ := gCall_some e
  refine hs W σ c ds _ k u s e1 fun W1 vs k1 g1 d1 => ?_
  exact hr W1 vs ds d Q k1 (d1.up (k1.atG b1)) e2 fun v hv => q W1 v k1 g1 (hv _)
def fLen : List D → Option D
  | [.dct _ ks _] => some (.int ks.length)
  | [.str x] => if x.length ≤ sizeLine then some (.int x.length) else none
  | [d] => d.items.map fun ds => .int ds.length
  | _ => none
def rLenU (K : PySem.W.Frag) (w : World) : List V → Hp → VK → Prop := fun xs H Q => (∃ x n, xs = [x] ∧ LenV K x H n ∧ Q (.int n) H) ∨ ∃ a, xs = [V.ref a] ∧ ((∃ kvs, Rd H a (.dK kvs) ∧ Q (.int kvs.length) H) ∨ ∃ es : List NE, DN K w H a es ∧ Q (.int es.length) H)
theorem call_lenU {X : Cx} : CallR X (.builtin "len") (rLenU X.K X.w) := call_len.or (call_lenX rfl rfl)
theorem rcs_len : RCS K (rLenU K.k K.w) fLen := by
  intro W xs ds z Q k hd hf q
  unfold fLen at hf
  split at hf
  · cases hf
    cases hd with
    | cons h1 h2 =>
      cases h2
      cases h1 with
      | dK a1 a2 a3 =>
        subst a2
        exact .inr ⟨_, rfl, .inl ⟨_, rd_same k.gh a1, by simpa using q _ fun H => .int _⟩⟩
      | dN a1 a2 a3 a4 a5 =>
        have l2 := a2.length
        refine .inr ⟨_, rfl, .inr ⟨_, ⟨rd_same k.gh a1, fun x hx => ?_⟩, by simp at l2; rw [l2]; exact q _ fun H => .int _⟩⟩
        have := denL_nk_at _ _ a2 a3 x hx
        exact ⟨nk_same k.gh this.1, this.2⟩
  · split at hf
    · rename_i hz
      cases hf
      cases hd with
      | cons h1 h2 => cases h1; cases h2; exact .inl ⟨_, _, rfl, ⟨hz, rfl⟩, q _ fun H => .int _⟩
    · cases hf
  · simp only [Option.map_eq_some_iff] at hf
    obtain ⟨es, e1, e2⟩ := hf
    subst e2
    cases hd with
    | cons h1 h2 =>
      cases h2
      obtain ⟨a, ys, rfl, hs, hd⟩ := den_items h1 e1
      refine .inl ⟨_, es.length, rfl, ?_, q _ fun H => .int _⟩
      rcases hs with hs | hs
      · exact .inl ⟨ys, k.gh.seq hs, hd.length.symm⟩
      · exact .inr ⟨ys, sqT_same k.gh hs, hd.length.symm⟩
  · cases hf
def fInt : List D → Option D
  | [.int i] => some (.int i)
  | [.bl k] => some (.int (if k then 1 else 0))
  | _ => none
def rIntU : List V → Hp → VK → Prop := fun xs H Q => (∃ i, xs = [.int i] ∧ Q (.int i) H) ∨ ∃ k, xs = [.bl k] ∧ Q (.int (if k then 1 else 0)) H
theorem call_intU {X : Cx} : CallR X (.type "int") rIntU := call_int1
theorem rcs_int : RCS K rIntU fInt := by
  intro W xs ds z Q k hd hf q
  unfold fInt at hf
  split at hf
  · cases hf
    cases hd with
    | cons h1 h2 => cases h1; cases h2; exact .inl ⟨_, rfl, q _ fun H => .int _⟩
  · cases hf
    cases hd with
    | cons h1 h2 => cases h1; cases h2; exact .inr ⟨_, rfl, q _ fun H => .int _⟩
  · cases hf
def fMax : List D → Option D
  | [.int i, .int j] => some (.int (if j > i then j else i))
  | _ => none
def fMin : List D → Option D
  | [.int i, .int j] => some (.int (if j < i then j else i))
  | _ => none
def rMaxU : List V → Hp → VK → Prop := fun xs H Q => ∃ i j, xs = [.int i, .int j] ∧ Q (.int (if j > i then j else i)) H
def rMinU : List V → Hp → VK → Prop := fun xs H Q => ∃ i j, xs = [.int i, .int j] ∧ Q (.int (if j < i then j else i)) H
theorem call_maxU {X : Cx} (hc : X.calm = true) : CallR X (.builtin "max") rMaxU := call_max2 hc
theorem call_minU {X : Cx} (hc : X.calm = true) : CallR X (.builtin "min") rMinU := call_min2 hc
theorem rcs_max : RCS K rMaxU fMax := by
  intro W xs ds z Q k hd hf q
  unfold fMax at hf
  split at hf
  · cases hf
    cases hd with
    | cons h1 h2 =>
      cases h2 with
      | cons h2 h3 => cases h1; cases h2; cases h3; exact ⟨_, _, rfl, q _ fun H => .int _⟩
  · cases hf
theorem rcs_min : RCS K rMinU fMin := by
  intro W xs ds z Q k hd hf q
  unfold fMin at hf
  split at hf
  · cases hf
    cases hd with
    | cons h1 h2 =>
      cases h2 with
      | cons h2 h3 => cases h1; cases h2; cases h3; exact ⟨_, _, rfl, q _ fun H => .int _⟩
  · cases hf
/-- tuple(x) -/
def fTuple : List D → Option D
  | [d] => d.items.map .tup
  | _ => none
def rTupleU (K : PySem.W.Frag) : List V → Hp → VK → Prop := fun xs H Q => ∃ p ys, xs = [.ref p] ∧ ((SqL K H p ys ∧ ∀ l, H l = none → Q (.ref l) (upd H l (.tup ys))) ∨ (SqT K H p ys ∧ Q (.ref p) H))
theorem call_tupleU {X : Cx} : CallR X (.type "tuple") (rTupleU X.K) := call_tuple_of
theorem rc_tuple : RC K (rTupleU K) fTuple := by
  intro b W xs ds z Q k hd hf q
  unfold fTuple at hf
  split at hf
  · simp only [Option.map_eq_some_iff] at hf
    obtain ⟨es, e1, e2⟩ := hf
    subst e2
    cases hd with
    | cons h1 h2 =>
      cases h2
      obtain ⟨a, ys, rfl, hs, hd⟩ := den_items h1 e1
      refine ⟨a, ys, rfl, ?_⟩
      rcases hs with hs | hs
      · exact .inl ⟨(k.atH b).seq hs, fun p hp => q (W.new b p _) _ (new_ok k hp) (new_gr k hp) (.tup (SqT.of new_self) (new_denL k hp hd))⟩
      · exact .inr ⟨sqT_same (k.atH b) hs, q W _ k (Gr.refl W) (.tup hs hd)⟩
  · cases hf
/-- list(x), a list or a tuple -/
def rListU (K : PySem.W.Frag) : List V → Hp → VK → Prop := fun xs H Q => ∃ p ys, xs = [.ref p] ∧ (SqL K H p ys ∨ SqT K H p ys) ∧ ∀ l, H l = none → Q (.ref l) (upd H l (.lst ys))
theorem call_listU {X : Cx} : CallR X (.type "list") (rListU X.K) := call_list_of
def gItems (g : GE) : GA := fun c => match g c with
  | some d => d.items
  | none => none
theorem vn_list (h : VT K W0 true te g) : VN K W0 (tCB (rListU K) (tCons te tNil)) (gItems g) := by
  intro W σ c ds Q k u s e q
  unfold gItems at e
  split at e
  · rename_i d hd
    refine h W σ c d _ k u s hd fun W1 v k1 g1 d1 => ?_
    obtain ⟨a, ys, rfl, hs, hd⟩ := den_items d1 e
    refine ⟨a, ys, rfl, ?_, fun l hl => q W1 l ys k1 g1 hl hd⟩
    rcases hs with hs | hs
    · exact .inl (k1.fh.seq hs)
    · exact .inr (sqT_same k1.fh hs)
  · cases e
/-! isinstance of a built-in type -/
def D.ty : D → Option String
  | .non => some "NoneType" | .bl _ => some "bool" | .int _ => some "int" | .str _ => some "str" | .tup _ => some "tuple" | .lst _ => some "list" | .scr _ => some "list" | .ins _ _ _ => none | .dct _ _ _ => none
theorem ty_run {H : Hp} {v : V} {d : D} {n : String} (h : Den K H v d) (e : d.ty = some n) : TyX K H v (.type n) := by
  cases h with
  | non => cases e; exact .base .non
  | bl b => cases e; exact .base (.bl b)
  | int i => cases e; exact .base (.int i)
  | str x => cases e; exact .base (.str x)
  | tup h1 h2 =>
    cases e
    rcases h1 with (h1 | ⟨o, h1⟩) | ⟨o, its, n, h1, h2, _⟩
    · exact .base (.tup h1)
    · exact .fTuple h1
    · exact .kTuple h1 h2
  | lst h1 h2 => cases e; exact .base (.lst h1)
  | scr h1 h2 =>
    cases e
    rcases h1 with (h1 | ⟨o, h1⟩) | ⟨o, its, n, h1, h2, _⟩
    · exact .base (.lst h1)
    · exact .base (.frz h1)
    · exact .kList h1 h2
  | ins h1 h2 h3 => cases e
  | dK _ _ _ => cases e
  | dN _ _ _ _ _ => cases e
def dIsi (n : String) (d : D) : Option D := match d.ty with
  | some t => (kitB t n).map .bl
  | none => none
def gIsi (n : String) (g : GE) : GE := fun c => (g c).bind (dIsi n)
theorem vt_isi {n : String} (h : VT K W0 b1 te g) : VT K W0 b (tCB (rIsi K) (tCons te (tCons (tC (.ty n)) tNil))) (gIsi n g) := by
  intro W σ c d Q k u s e q
  unfold gIsi at e
  simp only [Option.bind_eq_some_iff] at e
  obtain ⟨x, e1, e2⟩ := e
  unfold dIsi at e2
  split at e2
  · rename_i t ht
    simp only [Option.map_eq_some_iff] at e2
    obtain ⟨r, e3, e4⟩ := e2
    subst e4
    refine h W σ c x _ k u s e1 fun W1 v k1 g1 d1 => ?_
    exact ⟨v, .ty n, .type t, .type n, r, rfl, .ty n, ty_run (d1.up (k1.atH b1)) ht, kit_ty e3, q W1 _ k1 g1 (.bl r)⟩
  · cases e2
theorem kb1 : kitB "int" "int" = some true := by decide +kernel
theorem kb2 : kitB "bool" "int" = some true := by decide +kernel
theorem kb3 : kitB "int" "bool" = some false := by decide +kernel
theorem kb4 : kitB "bool" "bool" = some true := by decide +kernel
theorem kb5 : kitB "str" "str" = some true := by decide +kernel
theorem kb6 : kitB "int" "str" = some false := by decide +kernel
theorem kb7 : kitB "str" "int" = some false := by decide +kernel
theorem kb8 : kitB "tuple" "tuple" = some true := by decide +kernel
theorem kb9 : kitB "list" "tuple" = some false := by decide +kernel
theorem kb10 : kitB "list" "list" = some true := by decide +kernel
theorem kb11 : kitB "tuple" "list" = some false := by decide +kernel
theorem kb12 : kitB "str" "list" = some false := by decide +kernel
theorem kb13 : kitB "str" "tuple" = some false := by decide +kernel
theorem kb14 : kitB "int" "list" = some false := by decide +kernel
theorem kb15 : kitB "int" "tuple" = some false := by decide +kernel
end
end VL
end

section
/-! VC: statements, loops, comprehensions, defs by data. -/
namespace VL
open PySem PySem.Spec PyProof.Rows L2

inductive Out where
  | nx (c : Env) | ret (d : D) | bk (c : Env) | ct (c : Env)
  | ex (C : Addr) (ns : List Str) (ds : List D)
  /-- return of a structure of one's own -/
  | own (t : T)
abbrev GS := Env → Option Out
def NxP (K : KW) (W0 : Wd) (Fs : Hp) (P : L2.St → Hp → Prop) (c : Env) : Prop :=
  ∀ W σ, WOk W → Up W0 W → Same Fs W.F → SD K W0 W σ c → P σ W.H
def Post (K : KW) (E : XK) (W0 : Wd) (Fs : Hp) (D : Ends) : Option Out → Prop
  | none => False
  | some (.nx c) => NxP K W0 Fs D.nx c
  | some (.bk c) => NxP K W0 Fs D.bk c
  | some (.ct c) => NxP K W0 Fs D.ct c
  | some (.ret d) => ∀ W v, WOk W → Up W0 W → Same Fs W.F → Den K W.F v d → D.rt v W.H
  | some (.ex C ns ds) => ∀ W dx fs, WOk W → Up W0 W → Same Fs W.F → W.H dx = some (.xd fs) → W0.H dx = none → fs.map (·.1) = ns → DenL K W.F (fs.map (·.2)) ds → E (.ref C) (some dx) W.H
  | some (.own t) => ∀ W v as, WOk W → Up W0 W → Same Fs W.F → TOk K W0 W v t as → as.Nodup → D.rt v W.H
def VS (K : KW) (W0 : Wd) (E : XK) (ts : TS) (g : GS) : Prop :=
  ∀ (W : Wd) (σ : L2.St) (c : Env) (D : Ends), WOk W → Up W0 W → SD K W0 W σ c → Post K E W0 W.F D (g c) → ts D σ W.H
section
variable {K : KW} {E : XK}
theorem NxP.mono {W0 : Wd} {F F' : Hp} {P : L2.St → Hp → Prop} {c : Env} (h : NxP K W0 F P c) (e : Same F F') : NxP K W0 F' P c :=
  fun W σ k u f s => h W σ k u (e.trans f) s
theorem Post.mono {W0 : Wd} {F F' : Hp} {D : Ends} (e : Same F F') : ∀ {o : Option Out}, Post K E W0 F D o → Post K E W0 F' D o
  | none, h => h
  | some (.nx c), h => NxP.mono h e
  | some (.bk c), h => NxP.mono h e
  | some (.ct c), h => NxP.mono h e
  | some (.ret d), h => fun W v k u f => h W v k u (e.trans f)
  | some (.ex C ns ds), h => fun W dx fs k u f => h W dx fs k u (e.trans f)
  | some (.own t), h => fun W v as k u f => h W v as k u (e.trans f)

/-! blocks -/
def gNext : GS := fun c => some (.nx c)
def gNever : GS := fun _ => none
def gSeq (g1 g2 : GS) : GS := fun c => match g1 c with
  | some (.nx c') => g2 c'
  | r => r
theorem vs_next : VS K W0 E tNext gNext := fun W σ c D k u s h => h W σ k u (Same.refl _) s
theorem vs_never : VS K W0 E tNever gNever := fun W σ c D k u s h => h
theorem vs_seq {t1 t2 : TS} {g1 g2 : GS} (h1 : VS K W0 E t1 g1) (h2 : VS K W0 E t2 g2) : VS K W0 E (tSeq t1 t2) (gSeq g1 g2) := by
  intro W σ c D k u s h
  refine h1 W σ c { D with nx := t2 D } k u s ?_
  unfold gSeq at h
  cases e : g1 c with
  | none => rw [e] at h; exact h
  | some o =>
    rw [e] at h
    cases o with
    | nx c' => exact fun W' σ' k' u' f' s' => h2 W' σ' c' D k' u' s' (h.mono f')
    | ret d => exact h
    | bk c => exact h
    | ct c => exact h
    | ex C ns ds => exact h
    | own t => exact h
def gBreak : GS := fun c => some (.bk c)
def gCont : GS := fun c => some (.ct c)
theorem vs_break : VS K W0 E tBreak gBreak := fun W σ c D k u s h => h W σ k u (Same.refl _) s
theorem vs_cont : VS K W0 E tCont gCont := fun W σ c D k u s h => h W σ k u (Same.refl _) s
def gIf (p : GB) (g1 g2 : GS) : GS := fun c => match p c with
  | some true => g1 c
  | some false => g2 c
  | none => none
theorem vs_if {tt : TT} {p : GB} {t1 t2 : TS} {g1 g2 : GS} (h : VB K W0 tt p) (h1 : VS K W0 E t1 g1) (h2 : VS K W0 E t2 g2) : VS K W0 E (tIfS tt t1 t2) (gIf p g1 g2) := by
  intro W σ c D k u s q
  unfold gIf at q
  cases e : p c with
  | none => rw [e] at q; exact q.elim
  | some b =>
    rw [e] at q
    refine h W σ c b _ k u s e fun W' k' g' => ?_
    cases b with
    | true => rw [if_pos rfl]; exact h1 W' σ c D k' (u.gr g') (s.gr g') (q.mono g'.f)
    | false => rw [if_neg Bool.false_ne_true]; exact h2 W' σ c D k' (u.gr g') (s.gr g') (q.mono g'.f)

theorem noHold_fz {W0 W : Wd} {x : Option V} {d : D} {l : Addr} : ¬ Holds K W0 W x (some (.fz d)) l := fun h => by
  rcases h with h | ⟨b0, t, v, as, h, _⟩
  · exact absurd h.2 Bool.false_ne_true
  · cases h
theorem noHold_none {W0 W : Wd} {x : Option V} {l : Addr} : ¬ Holds K W0 W x none l := fun h => by
  rcases h with h | ⟨b0, t, v, as, h, _⟩
  · exact absurd h.2 Bool.false_ne_true
  · cases h
theorem noHold_exc {W0 W : Wd} {x : Option V} {C : Addr} {ns : List Str} {ds : List D} {l : Addr} : ¬ Holds K W0 W x (some (.exc C ns ds)) l := fun h => by
  rcases h with h | ⟨b0, t, v, as, h, _⟩
  · exact absurd h.2 Bool.false_ne_true
  · cases h
/-! lists of one's own are settled -/
def frzCell : Option Cell → Option Cell
  | some (.own ds) => some (.fz (.lst ds))
  | x => x
theorem sd_frz {W0 W : Wd} {σ : L2.St} {c c' : Env} (k : WOk W) (u : Up W0 W) (s : SD K W0 W σ c) (hl : c'.length = c.length) (hc : ∀ (i : Nat) y, c[i]? = some y → c'[i]? = some y ∨ c'[i]? = some (frzCell y)) :
    ∃ W', W'.H = W.H ∧ WOk W' ∧ Up W0 W' ∧ Same W.F W'.F ∧ SD K W0 W' σ c' := by
  classical
  let own : Addr → Prop := fun a => ∃ (i : Nat) (ds : List D), c[i]? = some (some (.own ds)) ∧ c'[i]? = some (some (.fz (.lst ds))) ∧ σ[i]? = some (some (.ref a))
  let F' : Hp := fun a => if own a then W.G a else W.F a
  have ff : Same W.F F' := fun a o e => by
    show (if own a then W.G a else W.F a) = some o
    split
    · exact k.fg _ _ e
    · exact e
  have key : ∀ a, own a → ∃ vs ds, W.H a = some (.lst vs) ∧ W.G a = some (.lst vs) ∧ W0.H a = none ∧ DenL K W.F vs ds := by
    rintro a ⟨i, ds, h1, h2, h3⟩
    obtain ⟨l, vs, e1, e2, e3, e4, e5, e6⟩ := s.ok i _ _ h3 h1
    cases e1
    exact ⟨vs, ds, e2, e3, e5, e6⟩
  have mv : ∀ (i : Nat) b t v as, σ[i]? = some (some v) → c[i]? = some (some (.tre b t)) → TOk K W0 W v t as → TOk K W0 ⟨W.H, W.G, F'⟩ v t as := by
    intro i b0 t v as h1 h2 h3
    refine TOk.move (W := W) (W0 := W0) ff (fun _ e => e) t v as (fun l hl => ⟨rfl, rfl, ?_⟩) h3
    show (if own l then W.G l else W.F l) = W.F l
    rw [if_neg]
    rintro ⟨j, ds', q1, q2, q3⟩
    have hij := s.one i j _ _ _ _ l h1 h2 q3 q1 (.inr ⟨_, t, v, as, rfl, rfl, h3, hl⟩) (.inl ⟨rfl, rfl⟩)
    subst hij
    rw [h2] at q1; cases q1
  refine ⟨⟨W.H, W.G, F'⟩, rfl, ⟨fun a o e => ?_, k.gh, fun a xs e ht => ff a _ (k.gt a xs e ht)⟩, ⟨u.h, u.f.trans ff, fun a o e => ?_⟩, ff, ⟨by rw [hl]; exact s.len, fun i x y h1 h2 => ?_, fun i j x y z w l h1 h2 h3 h4 h5 h6 => ?_⟩⟩
  · have e' : (if own a then W.G a else W.F a) = some o := e
    split at e'
    · exact e'
    · exact k.fg _ _ e'
  · show (if own a then W.G a else W.F a) = W0.F a
    split
    · rename_i ho
      obtain ⟨_, _, _, _, z, _⟩ := key a ho
      rw [z] at e; cases e
    · exact u.fo a o e
  · have hi : i < c.length := by
      have := (List.getElem?_eq_some_iff.mp h2).1
      omega
    have hci : c[i]? = some c[i] := List.getElem?_eq_getElem hi
    have okc := s.ok i x _ h1 hci
    cases hcell : c[i] with
    | none =>
      rw [hcell] at hci okc
      rcases hc i _ hci with z | z <;> (rw [h2] at z; cases z; trivial)
    | some cl =>
      rw [hcell] at hci okc
      cases cl with
      | fz d =>
        rcases hc i _ hci with z | z <;> (rw [h2] at z; cases z; obtain ⟨v, e1, e2⟩ := okc; exact ⟨v, e1, e2.up ff⟩)
      | own ds =>
        obtain ⟨l, vs, e1, e2, e3, e4, e5, e6⟩ := okc
        rcases hc i _ hci with z | z
        · rw [h2] at z; cases z
          refine ⟨l, vs, e1, e2, e3, ?_, e5, e6.up ff⟩
          show (if own l then W.G l else W.F l) = none
          split
          · rename_i ho
            obtain ⟨j, ds', q1, q2, q3⟩ := ho
            have hij := s.one i j _ _ _ _ l h1 hci q3 q1 (.inl ⟨e1, rfl⟩) (.inl ⟨rfl, rfl⟩)
            subst hij
            rw [h2] at q2; cases q2
          · exact e4
        · rw [h2] at z; cases z
          subst e1
          refine ⟨_, rfl, .lst ?_ (e6.up ff)⟩
          show (if own l then W.G l else W.F l) = some (.lst vs)
          rw [if_pos ⟨i, ds, hci, h2, h1⟩]
          exact e3
      | exc C ns ds =>
        obtain ⟨fs, e1, e2, e3, e4⟩ := okc
        rcases hc i _ hci with z | z <;> (rw [h2] at z; cases z; exact ⟨fs, e1, e2, e3, e4.up ff⟩)
      | slf C ns ds =>
        obtain ⟨fs, e1, e2, e3, e4, e5, e6, e7⟩ := okc
        have fin : (if own W0.sa then W.G W0.sa else W.F W0.sa) = none := by
          split
          · exact e3
          · exact e4
        rcases hc i _ hci with z | z <;> (rw [h2] at z; cases z; exact ⟨fs, e1, e2, e3, fin, e5, e6, e7.up ff⟩)
      | tre b0 t =>
        obtain ⟨v, as, e1, e2, e3⟩ := okc
        rcases hc i _ hci with z | z <;> (rw [h2] at z; cases z; exact ⟨v, as, e1, mv i _ t v as (by rw [h1, e1]) hci e2, e3⟩)
  · have one' := s.one_move (W0' := W0) (W' := ⟨W.H, W.G, F'⟩) mv
    have back : ∀ (i : Nat) y x, c'[i]? = some y → Holds K W0 ⟨W.H, W.G, F'⟩ x y l → ∃ y', c[i]? = some y' ∧ Holds K W0 ⟨W.H, W.G, F'⟩ x y' l := by
      intro i y x q1 q2
      have hi : i < c.length := by
        have := (List.getElem?_eq_some_iff.mp q1).1
        omega
      have hci : c[i]? = some c[i] := List.getElem?_eq_getElem hi
      rcases hc i _ hci with z | z
      · rw [q1] at z; cases z; exact ⟨_, hci, q2⟩
      · rw [q1] at z
        have z' : y = frzCell c[i] := Option.some.inj z
        cases hcell : c[i] with
        | none => rw [hcell] at z'; subst z'; exact (noHold_none q2).elim
        | some cl =>
          rw [hcell] at z'
          cases cl with
          | fz d => subst z'; exact (noHold_fz q2).elim
          | own es => subst z'; exact (noHold_fz q2).elim
          | exc C ns es => subst z'; exact ⟨_, by rw [hci, hcell]; rfl, q2⟩
          | slf C ns es => subst z'; exact ⟨_, by rw [hci, hcell]; rfl, q2⟩
          | tre b0 t => subst z'; exact ⟨_, by rw [hci, hcell]; rfl, q2⟩
    obtain ⟨y1, a1, b1⟩ := back i y x h2 h5
    obtain ⟨y2, a2, b2⟩ := back j w z h4 h6
    exact one' i j _ _ _ _ l h1 a1 h3 a2 b1 b2
def frz (i : Nat) (c : Env) : Env := match c[i]? with
  | some (some (.own ds)) => c.set i (some (.fz (.lst ds)))
  | _ => c
def gFrz (i : Nat) (g : GS) : GS := fun c => g (frz i c)
theorem vs_frz (i : Nat) {t : TS} {g : GS} (h : VS K W0 E t g) : VS K W0 E t (gFrz i g) := by
  intro W σ c D k u s q
  have hfr : ∃ W', W'.H = W.H ∧ WOk W' ∧ Up W0 W' ∧ Same W.F W'.F ∧ SD K W0 W' σ (frz i c) := by
    refine sd_frz k u s ?_ fun j y hj => ?_
    · unfold frz; split <;> simp
    · unfold frz
      split
      · rename_i ds hd
        by_cases hij : i = j
        · subst hij
          rw [hj] at hd; cases hd
          right
          rw [List.getElem?_set_self (List.getElem?_eq_some_iff.mp hj).1]
          rfl
        · left; rw [List.getElem?_set_ne hij]; exact hj
      · left; exact hj
  obtain ⟨W', e, k', u', f', s'⟩ := hfr
  rw [← e]
  exact h W' σ _ D k' u' s' (q.mono f')
def frzAll (c : Env) : Env := c.map frzCell
def gRet (g : GE) : GS := fun c => match g (frzAll c) with
  | some d => some (.ret d)
  | none => none
theorem vs_ret {te : TE} {g : GE} (h : VT K W0 true te g) : VS K W0 E (tRet te) (gRet g) := by
  intro W σ c D k u s q
  obtain ⟨W', e, k', u', f', s'⟩ := sd_frz (c' := frzAll c) k u s (by simp [frzAll]) (fun i y hy => .inr (by simp [frzAll, hy]))
  unfold gRet at q
  cases hg : g (frzAll c) with
  | none => rw [hg] at q; exact q.elim
  | some d =>
    rw [hg] at q
    show te σ W.H D.rt
    rw [← e]
    exact h W' σ _ d _ k' u' s' hg fun W2 v k2 g2 hd => q W2 v k2 (u'.gr g2) (f'.trans g2.f) hd
def gRetN : GS := fun _ => some (.ret .non)
theorem vs_retN : VS K W0 E tRetN gRetN := fun W σ c D k u s q => q W .non k u (Same.refl _) .non

/-! assignments -/
theorem sd_set {W0 W : Wd} {σ : L2.St} {c : Env} (s : SD K W0 W σ c) (i : Nat) (x : Option V) (y : Option Cell) (h : CellOk K W0 W x y)
    (hn : ∀ l, Holds K W0 W x y l → ∀ (j : Nat) z w, σ[j]? = some z → c[j]? = some w → ¬ Holds K W0 W z w l) : SD K W0 W (σ.set i x) (c.set i y) := by
  refine ⟨by simp [s.len], fun j z w h1 h2 => ?_, fun j m z w z' w' l h1 h2 h3 h4 h5 h6 => ?_⟩
  · by_cases hij : i = j
    · subst hij
      have hi : i < σ.length := by have := (List.getElem?_eq_some_iff.mp h1).1; simpa using this
      have hi' : i < c.length := by have := (List.getElem?_eq_some_iff.mp h2).1; simpa using this
      rw [List.getElem?_set_self hi] at h1
      rw [List.getElem?_set_self hi'] at h2
      cases h1; cases h2; exact h
    · rw [List.getElem?_set_ne hij] at h1 h2
      exact s.ok j z w h1 h2
  · have sel : ∀ (j : Nat) z w, (σ.set i x)[j]? = some z → (c.set i y)[j]? = some w → (j = i ∧ z = x ∧ w = y) ∨ (j ≠ i ∧ σ[j]? = some z ∧ c[j]? = some w) := by
      intro j z w h1 h2
      by_cases hij : i = j
      · subst hij
        have hi : i < σ.length := by have := (List.getElem?_eq_some_iff.mp h1).1; simpa using this
        have hi' : i < c.length := by have := (List.getElem?_eq_some_iff.mp h2).1; simpa using this
        rw [List.getElem?_set_self hi] at h1
        rw [List.getElem?_set_self hi'] at h2
        cases h1; cases h2; exact .inl ⟨rfl, rfl, rfl⟩
      · rw [List.getElem?_set_ne hij] at h1 h2
        exact .inr ⟨Ne.symm hij, h1, h2⟩
    rcases sel j z w h1 h2 with ⟨a1, a2, a3⟩ | ⟨a1, a2, a3⟩
    · rcases sel m z' w' h3 h4 with ⟨b1, b2, b3⟩ | ⟨b1, b2, b3⟩
      · rw [a1, b1]
      · subst a2 a3; exact (hn l h5 m z' w' b2 b3 h6).elim
    · rcases sel m z' w' h3 h4 with ⟨b1, b2, b3⟩ | ⟨b1, b2, b3⟩
      · subst b2 b3; exact (hn l h6 j z w a2 a3 h5).elim
      · exact s.one j m z w z' w' l a2 a3 b2 b3 h5 h6
theorem sd_fz {W0 W : Wd} {σ : L2.St} {c : Env} (s : SD K W0 W σ c) (i : Nat) {v : V} {d : D} (h : Den K W.F v d) : SD K W0 W (σ.set i (some v)) (c.set i (some (.fz d))) :=
  sd_set s i _ _ ⟨v, rfl, h⟩ fun l h => (noHold_fz h).elim
/-- a target: which slots it stores, what it makes of the cells -/
def VG (K : KW) (W0 : Wd) (tg : TG) (js : List Nat) (f : D → Env → Option Env) : Prop :=
  ∀ (W : Wd) (σ : L2.St) (c c' : Env) (v : V) (d : D) (Q : L2.St → Hp → Prop), WOk W → SD K W0 W σ c → Den K W.F v d → f d c = some c' →
    (∀ σ', SD K W0 W σ' c' → σ'.length = σ.length → (∀ k, k ∉ js → σ'[k]? = σ[k]?) → Q σ' W.H) → tg v σ W.H Q
def VGs (K : KW) (W0 : Wd) (tg : TGs) (js : List Nat) (f : List D → Env → Option Env) : Prop :=
  ∀ (W : Wd) (σ : L2.St) (c c' : Env) (vs : List V) (ds : List D) (Q : L2.St → Hp → Prop), WOk W → SD K W0 W σ c → DenL K W.F vs ds → f ds c = some c' →
    (∀ σ', SD K W0 W σ' c' → σ'.length = σ.length → (∀ k, k ∉ js → σ'[k]? = σ[k]?) → Q σ' W.H) → tg vs σ W.H Q
def fName (i : Nat) : D → Env → Option Env := fun d c => some (c.set i (some (.fz d)))
theorem vg_name (i : Nat) : VG K W0 (gName i) [i] (fName i) := by
  intro W σ c c' v d Q k s hd e q
  cases e
  refine q _ (sd_fz s i hd) (by simp) fun j hj => List.getElem?_set_ne ?_
  simp at hj; exact Ne.symm hj
def fNil : List D → Env → Option Env
  | [], c => some c
  | _, _ => none
def fCons (f : D → Env → Option Env) (fs : List D → Env → Option Env) : List D → Env → Option Env
  | d :: ds, c => match f d c with
    | some c' => fs ds c'
    | none => none
  | [], _ => none
def fTup (n : Nat) (fs : List D → Env → Option Env) : D → Env → Option Env
  | .tup ds, c => if ds.length = n then fs ds c else none
  | _, _ => none
theorem vgs_nil : VGs K W0 L2.gNil [] fNil := by
  intro W σ c c' vs ds Q k s hd e q
  cases ds with
  | nil => cases e; cases hd; exact ⟨rfl, q σ s rfl fun _ _ => rfl⟩
  | cons d ds => cases e
theorem vgs_cons {t : TG} {ts : TGs} {js ks : List Nat} {f : D → Env → Option Env} {fs : List D → Env → Option Env} (h : VG K W0 t js f) (hs : VGs K W0 ts ks fs) : VGs K W0 (L2.gCons t ts) (js ++ ks) (fCons f fs) := by
  intro W σ c c' vs ds Q k s hd e q
  cases ds with
  | nil => cases e
  | cons d ds =>
    cases hd with
    | cons h1 h2 =>
      simp only [fCons] at e
      split at e
      · rename_i c1 hc1
        refine ⟨_, _, rfl, h W σ c c1 _ d _ k s h1 hc1 fun σ1 s1 l1 a1 => hs W σ1 c1 c' _ ds _ k s1 h2 e fun σ2 s2 l2 a2 => q σ2 s2 (l2.trans l1) fun j hj => ?_⟩
        rw [List.mem_append] at hj
        exact (a2 j fun z => hj (.inr z)).trans (a1 j fun z => hj (.inl z))
      · cases e
theorem vg_tup {n : Nat} {ts : TGs} {js : List Nat} {fs : List D → Env → Option Env} (hs : VGs K W0 ts js fs) : VG K W0 (L2.gTup K n ts) js (fTup n fs) := by
  intro W σ c c' v d Q k s hd e q
  unfold fTup at e
  split at e
  · split at e
    · rename_i hn
      cases hd with
      | tup h1 h2 => exact ⟨_, _, rfl, sqT_same k.fh h1, by rw [h2.length]; exact hn, hs W σ c c' _ _ Q k s h2 e q⟩
    · cases e
  · cases e
def gAsg (g : GE) (f : D → Env → Option Env) : GS := fun c => match g c with
  | some d => match f d c with
    | some c' => some (.nx c')
    | none => none
  | none => none
theorem vs_asg {te : TE} {g : GE} {tg : TG} {js : List Nat} {f : D → Env → Option Env} (h : VT K W0 true te g) (hg : VG K W0 tg js f) : VS K W0 E (tAsg te tg) (gAsg g f) := by
  intro W σ c D k u s q
  unfold gAsg at q
  cases e : g c with
  | none => rw [e] at q; exact q.elim
  | some d =>
    rw [e] at q
    refine h W σ c d _ k u s e fun W' v k' g' hd => ?_
    cases e2 : f d c with
    | none => simp only [e2] at q; exact q.elim
    | some c' =>
      simp only [e2] at q
      exact hg W' σ c c' v d _ k' (s.gr g') hd e2 fun σ' s' _ _ => q W' σ' k' (u.gr g') g'.f s'
/-- name = a new list -/
def gAsgN (i : Nat) (g : GA) : GS := fun c => match g c with
  | some ds => some (.nx (c.set i (some (.own ds))))
  | none => none
theorem hold_there {W0 W : Wd} {σ : L2.St} {c : Env} (s : SD K W0 W σ c) {j : Nat} {z : Option V} {w : Option Cell} {l : Addr} (h1 : σ[j]? = some z) (h2 : c[j]? = some w) (h : Holds K W0 W z w l) : ∃ o, W.H l = some o := by
  have q := s.ok j z w h1 h2
  rcases h with ⟨g1, g2⟩ | ⟨b0, t, v, as, rfl, rfl, h3, h4⟩
  · cases w with
    | none => exact absurd g2 Bool.false_ne_true
    | some cl =>
      cases cl with
      | fz d => exact absurd g2 Bool.false_ne_true
      | own ds =>
        obtain ⟨l', vs, e1, e2, _⟩ := q
        rw [g1] at e1; cases e1
        exact ⟨_, e2⟩
      | exc C ns ds => exact absurd g2 Bool.false_ne_true
      | slf C ns ds =>
        obtain ⟨fs, e1, e2, _⟩ := q
        rw [g1] at e1; cases e1
        exact ⟨_, e2⟩
      | tre b0 t => exact absurd g2 Bool.false_ne_true
  · obtain ⟨⟨vs, e, _⟩, _⟩ := TOk.there t v as h3 l h4
    exact ⟨_, e⟩
theorem vs_asgN {i : Nat} {te : TE} {g : GA} (h : VN K W0 te g) : VS K W0 E (tAsg te (gName i)) (gAsgN i g) := by
  intro W σ c D k u s q
  unfold gAsgN at q
  cases e : g c with
  | none => rw [e] at q; exact q.elim
  | some ds =>
    rw [e] at q
    refine h W σ c ds _ k u s e fun W' l vs k' g' hl hd => ?_
    have k2 : WOk (W'.new false l (.lst vs)) := new_ok k' hl
    have g2 : Gr W' (W'.new false l (.lst vs)) := new_gr k' hl
    have nW0 : W0.H l = none := (u.gr g').h.free hl
    refine q (W'.new false l (.lst vs)) _ k2 ((u.gr g').gr g2) (g'.f.trans g2.f) (sd_set ((s.gr g').gr g2) i _ _ ?_ ?_)
    · exact ⟨l, vs, rfl, upd_same, upd_same, k'.nF hl, nW0, hd⟩
    · intro l' hh j z w h3 h4 h5
      rcases hh with ⟨h1, _⟩ | ⟨b0, t, v, as, h1, _⟩
      · cases h1
        have h6 : Holds K W0 W' z w l := by
          rcases h5 with h5 | ⟨b0, t, v, as, rfl, rfl, h6, h7⟩
          · exact .inl h5
          · obtain ⟨v', bs, e, h8, _⟩ := (s.gr g').ok j _ _ h3 h4
            cases e
            rw [TOk.det t v as bs h6 (h8.gr g2)] at h7
            exact .inr ⟨_, t, v, bs, rfl, rfl, h8, h7⟩
        obtain ⟨o, ho⟩ := hold_there (s.gr g') h3 h4 h6
        rw [hl] at ho; cases ho
      · cases h1
def gDrop (g : GE) : GS := fun c => match g c with
  | some _ => some (.nx c)
  | none => none
theorem vs_expr {b : Bool} {te : TE} {g : GE} (h : VT K W0 b te g) : VS K W0 E (tDrop te) (gDrop g) := by
  intro W σ c D k u s q
  unfold gDrop at q
  cases e : g c with
  | none => rw [e] at q; exact q.elim
  | some d =>
    rw [e] at q
    exact h W σ c d _ k u s e fun W' v k' g' hd => q W' σ k' (u.gr g') g'.f (s.gr g')

/-! a list of one's own is changed -/
def Wd.wr (W : Wd) (l : Addr) (o : HO) : Wd := ⟨upd W.H l o, upd W.G l o, W.F⟩
theorem wr_sd {W0 W : Wd} {σ : L2.St} {c : Env} (k : WOk W) (u : Up W0 W) (s : SD K W0 W σ c) {i : Nat} {l : Addr} {vs us : List V} {ds es : List D} (hσ : σ[i]? = some (some (.ref l))) (hc : c[i]? = some (some (.own ds)))
    (hd : DenL K W.F us es) : WOk (W.wr l (.lst us)) ∧ Up W0 (W.wr l (.lst us)) ∧ SD K W0 (W.wr l (.lst us)) σ (c.set i (some (.own es))) := by
  obtain ⟨l', vs', e1, e2, e3, e4, e5, e6⟩ := s.ok i _ _ hσ hc
  cases e1
  have neF : ∀ a o, W.F a = some o → a ≠ l := fun a o e z => by rw [z, e4] at e; cases e
  have mv : ∀ (j : Nat) b0 t v as, σ[j]? = some (some v) → c[j]? = some (some (.tre b0 t)) → TOk K W0 W v t as → TOk K W0 (W.wr l (.lst us)) v t as := by
    intro j b0 t v as h1 h2 h3
    refine TOk.move (W := W) (W' := W.wr l (.lst us)) (W0 := W0) (W0' := W0) (Same.refl _) (fun _ e => e) t v as (fun l' hl => ?_) h3
    have ne : l' ≠ l := fun z => by
      subst z
      have hij := s.one i j _ _ _ _ l' hσ hc h1 h2 (.inl ⟨rfl, rfl⟩) (.inr ⟨_, t, v, as, rfl, rfl, h3, hl⟩)
      subst hij
      rw [hc] at h2; cases h2
    exact ⟨upd_ne ne, upd_ne ne, rfl⟩
  refine ⟨⟨fun a o e => ?_, same_upd2 k.gh, fun a xs e ht => by
    have e' : upd W.G l (.lst us) a = some xs := e
    by_cases h : a = l
    · subst h; rw [upd_same] at e'; cases e'; cases ht
    · rw [upd_ne h] at e'; exact k.gt a xs e' ht⟩, ⟨fun a o e => ?_, u.f, u.fo⟩, ⟨by simp [s.len], fun j x y h1 h2 => ?_, fun j m x y z w l' h1 h2 h3 h4 h5 h6 => ?_⟩⟩
  · show upd W.G l _ a = some o
    rw [upd_ne (neF a o e)]
    exact k.fg a o e
  · show upd W.H l _ a = some o
    rw [upd_ne (fun z => by rw [z, e5] at e; cases e)]
    exact u.h a o e
  · by_cases hij : i = j
    · subst hij
      rw [List.getElem?_set_self (List.getElem?_eq_some_iff.mp hc).1] at h2
      cases h2
      rw [hσ] at h1; cases h1
      exact ⟨l, us, rfl, upd_same, upd_same, e4, e5, hd⟩
    · rw [List.getElem?_set_ne hij] at h2
      have q := s.ok j x y h1 h2
      have nl : ∀ l', Holds K W0 W x y l' → l' ≠ l := fun l' h z => by
        subst z
        exact hij (s.one i j _ _ _ _ l' hσ hc h1 h2 (.inl ⟨rfl, rfl⟩) h)
      cases y with
      | none => trivial
      | some cl =>
        cases cl with
        | fz d => exact q
        | own es' =>
          obtain ⟨l2, vs2, a1, a2, a3, a4, a5, a6⟩ := q
          have ne := nl l2 (.inl ⟨a1, rfl⟩)
          exact ⟨l2, vs2, a1, (upd_ne ne).trans a2, (upd_ne ne).trans a3, a4, a5, a6⟩
        | exc C ns es' =>
          obtain ⟨fs, a1, a2, a3, a4⟩ := q
          exact ⟨fs, a1, (upd_ne (ne_of a2 e2 (by intro z; cases z))).trans a2, a3, a4⟩
        | slf C ns es' =>
          obtain ⟨fs, a1, a2, a3, a4, a5, a6, a7⟩ := q
          have ne := nl W0.sa (.inl ⟨a1, rfl⟩)
          exact ⟨fs, a1, (upd_ne ne).trans a2, (upd_ne ne).trans a3, a4, a5, a6, a7⟩
        | tre b0 t =>
          obtain ⟨v, as, a1, a2, a3⟩ := q
          subst a1
          exact ⟨v, as, rfl, mv j _ t v as h1 h2 a2, a3⟩
  · have one' := s.one_move (W0' := W0) (W' := W.wr l (.lst us)) mv
    have back : ∀ (j : Nat) x y, σ[j]? = some x → (c.set i (some (.own es)))[j]? = some y → Holds K W0 (W.wr l (.lst us)) x y l' → ∃ y', c[j]? = some y' ∧ Holds K W0 (W.wr l (.lst us)) x y' l' := by
      intro j x y q1 q2 q3
      by_cases hij : i = j
      · subst hij
        rw [List.getElem?_set_self (List.getElem?_eq_some_iff.mp hc).1] at q2
        cases q2
        rcases q3 with q3 | ⟨b0, t, v, as, q3, _⟩
        · exact ⟨_, hc, .inl ⟨q3.1, rfl⟩⟩
        · cases q3
      · rw [List.getElem?_set_ne hij] at q2
        exact ⟨_, q2, q3⟩
    obtain ⟨y1, a1, b1⟩ := back j x y h1 h2 h5
    obtain ⟨y2, a2, b2⟩ := back m z w h3 h4 h6
    exact one' j m _ _ _ _ l' h1 a1 h3 a2 b1 b2
def gAppend (i : Nat) (g : GE) : GS := fun c => match c[i]? with
  | some (some (.own ds)) => match g c with
    | some d => if ds.length < sizeLine then some (.nx (c.set i (some (.own (ds ++ [d]))))) else none
    | none => none
  | _ => none
theorem vs_append {i : Nat} {te : TE} {g : GE} (h : VT K W0 true te g) : VS K W0 E (tDrop (tBM K "list" rAppend (tVar i) (tCons te tNil))) (gAppend i g) := by
  intro W σ c D k u s q
  unfold gAppend at q
  split at q
  · rename_i ds hc
    cases e : g c with
    | none => rw [e] at q; exact q.elim
    | some d =>
      simp only [e] at q
      by_cases hz : ds.length < sizeLine
      · rw [if_pos hz] at q
        obtain ⟨x, hx, l, vs, rfl, h1, h2, h3, h4, h5⟩ := s.at hc
        refine ⟨_, hx, .inl ⟨rfl, _, SqL.of h1⟩, h W σ c d _ k u s e fun W' v k' g' hd => ?_⟩
        refine ⟨l, vs, v, rfl, rfl, g'.h _ _ h1, by rw [h5.length]; exact hz, ?_⟩
        obtain ⟨k2, u2, s2⟩ := wr_sd (vs := vs) k' (u.gr g') (s.gr g') hx hc ((h5.up g'.f).append (.cons hd .nil))
        exact q (W'.wr l (.lst (vs ++ [v]))) σ k2 u2 g'.f s2
      · rw [if_neg hz] at q; exact q.elim
  · exact q.elim
/-- x[k] = e -/
def gSetIx (i : Nat) (gk ge : GE) : GS := fun c => match c[i]? with
  | some (some (.own ds)) => match ge c with
    | some d => match gk c with
      | some (.int j) => match ixN ds.length j with
        | some n => some (.nx (c.set i (some (.own (ds.set n d)))))
        | none => none
      | _ => none
    | none => none
  | _ => none
theorem vs_setIx {i : Nat} {b : Bool} {tk te : TE} {gk ge : GE} (hk : VT K W0 b tk gk) (he : VT K W0 true te ge) : VS K W0 E (tAsg te (gSub (tVar i) tk rSetL)) (gSetIx i gk ge) := by
  intro W σ c D k u s q
  unfold gSetIx at q
  split at q
  · rename_i ds hc
    cases e : ge c with
    | none => rw [e] at q; exact q.elim
    | some d =>
      simp only [e] at q
      cases e2 : gk c with
      | none => rw [e2] at q; exact q.elim
      | some z =>
        cases z with
        | int j =>
          simp only [e2] at q
          cases e3 : ixN ds.length j with
          | none => rw [e3] at q; exact q.elim
          | some n =>
            simp only [e3] at q
            obtain ⟨x, hx, l, vs, rfl, h1, h2, h3, h4, h5⟩ := s.at hc
            refine he W σ c d _ k u s e fun W1 v k1 g1 hd => ⟨_, hx, ?_⟩
            refine hk W1 σ c _ _ k1 (u.gr g1) (s.gr g1) e2 fun W2 v2 k2 g2 hd2 => ?_
            cases hd2
            refine ⟨l, vs, j, n, rfl, rfl, g2.h _ _ (g1.h _ _ h1), by rw [h5.length]; exact e3, ?_⟩
            obtain ⟨k3, u3, s3⟩ := wr_sd (vs := vs) k2 ((u.gr g1).gr g2) ((s.gr g1).gr g2) hx hc (DenL.set n ((h5.up g1.f).up g2.f) (hd.up g2.f))
            exact q (W2.wr l (.lst (vs.set n v))) σ k3 u3 (g1.f.trans g2.f) s3
        | _ => simp only [e2] at q; exact q.elim
  · exact q.elim
/-- name op= e, ints -/
def gAug (i : Nat) (f : D → D → Option D) (g : GE) : GS := fun c => match gVar i c with
  | some x => match g c with
    | some y => match f x y with
      | some z => some (.nx (c.set i (some (.fz z))))
      | none => none
    | none => none
  | none => none
def dAddI : D → D → Option D
  | .int i, .int j => some (.int (i + j))
  | _, _ => none
theorem vs_augI {i : Nat} {b : Bool} {te : TE} {g : GE} {f : Int → Int → Int} {fd : D → D → Option D} (hf : ∀ x y z, fd x y = some z → ∃ a b, x = .int a ∧ y = .int b ∧ z = .int (f a b)) (h : VT K W0 b te g) : VS K W0 E (tAug i te (ipI f)) (gAug i fd g) := by
  intro W σ c D k u s q
  unfold gAug at q
  cases e1 : gVar i c with
  | none => rw [e1] at q; exact q.elim
  | some x =>
    simp only [e1] at q
    cases e2 : g c with
    | none => rw [e2] at q; exact q.elim
    | some y =>
      simp only [e2] at q
      cases e3 : fd x y with
      | none => rw [e3] at q; exact q.elim
      | some z =>
        simp only [e3] at q
        obtain ⟨a, a', rfl, rfl, rfl⟩ := hf x y z e3
        unfold gVar at e1
        split at e1
        · rename_i d hc
          cases e1
          obtain ⟨w, hw, v, rfl, hv⟩ := s.at hc
          cases hv
          refine ⟨_, hw, h W σ c _ _ k u s e2 fun W' v k' g' hd => ?_⟩
          cases hd
          exact ⟨a, a', rfl, rfl, q W' _ k' (u.gr g') g'.f (sd_fz (s.gr g') i (.int _))⟩
        · cases e1
theorem aug_add : ∀ x y z, dAddI x y = some z → ∃ a b, x = .int a ∧ y = .int b ∧ z = .int ((fun i j : Int => i + j) a b) := by
  intro x y z h
  unfold dAddI at h
  split at h
  · cases h; exact ⟨_, _, rfl, rfl, rfl⟩
  · cases h
theorem aug_sub : ∀ x y z, dSub x y = some z → ∃ a b, x = .int a ∧ y = .int b ∧ z = .int ((fun i j : Int => i - j) a b) := by
  intro x y z h
  unfold dSub at h
  split at h
  · cases h; exact ⟨_, _, rfl, rfl, rfl⟩
  · cases h

/-! ### loops -/
/-- the walk J yields ds, one after another, while F stands -/
def Yields (K : KW) (F : Hp) (J : It) (ds : List D) : Prop :=
  ∀ (W : Wd) (i : Nat), WOk W → Same F W.F → (ds.length ≤ i → J.stop i W.H) ∧ (∀ d, ds[i]? = some d → J.go i W.H ∧ ∀ x H', J.yld i W.H x H' → ∃ W', WOk W' ∧ Gr W W' ∧ W'.H = H' ∧ Den K W'.F x d)
def VI (K : KW) (W0 : Wd) (wi : TI) (g : GA) : Prop :=
  ∀ (W : Wd) (σ : L2.St) (c : Env) (ds : List D) (R : It → Hp → Prop), WOk W → Up W0 W → SD K W0 W σ c → g c = some ds → (∀ W' J, WOk W' → Gr W W' → Yields K W'.F J ds → R J W'.H) → wi σ W.H R
def gLoop (f : D → Env → Option Env) (gb : GS) : List D → Env → Option Out
  | [], c => some (.nx c)
  | d :: ds, c => match f d c with
    | none => none
    | some c1 => match gb c1 with
      | some (.nx c2) => gLoop f gb ds c2
      | some (.ct c2) => gLoop f gb ds c2
      | some (.bk c2) => some (.nx c2)
      | r => r
def gFor (gi : GA) (f : D → Env → Option Env) (gb : GS) : GS := fun c => match gi c with
  | some ds => gLoop f gb ds c
  | none => none
theorem vs_for {wi : TI} {gi : GA} {tg : TG} {js : List Nat} {f : D → Env → Option Env} {tb : TS} {gb : GS} (hi : VI K W0 wi gi) (hg : VG K W0 tg js f) (hb : VS K W0 E tb gb) : VS K W0 E (tFor wi tg tb) (gFor gi f gb) := by
  intro W σ c D k u s q
  unfold gFor at q
  cases e : gi c with
  | none => rw [e] at q; exact q.elim
  | some ds =>
    simp only [e] at q
    refine hi W σ c ds _ k u s e fun W1 J k1 g1 y1 => ?_
    refine ⟨fun i m σ H => m = ds.length - i ∧ i ≤ ds.length ∧ ∃ Wx cx, Wx.H = H ∧ WOk Wx ∧ Up W0 Wx ∧ Same W1.F Wx.F ∧ SD K W0 Wx σ cx ∧ Post K E W0 W1.F D (gLoop f gb (ds.drop i) cx), ?_, ?_⟩
    · exact ⟨_, rfl, Nat.zero_le _, W1, c, rfl, k1, u.gr g1, Same.refl _, s.gr g1, by rw [List.drop_zero]; exact q.mono g1.f⟩
    · rintro i m σx H ⟨rfl, him, Wx, cx, rfl, kx, ux, fx, sx, px⟩
      by_cases hlt : i < ds.length
      · right
        have hd : ds[i]? = some ds[i] := List.getElem?_eq_getElem hlt
        obtain ⟨go, yl⟩ := (y1 Wx i kx fx).2 _ hd
        refine ⟨go, fun σ' H' => ∃ Wy cy, Wy.H = H' ∧ WOk Wy ∧ Up W0 Wy ∧ Same W1.F Wy.F ∧ SD K W0 Wy σ' cy ∧ Post K E W0 W1.F D (gLoop f gb (ds.drop (i + 1)) cy), fun σ' H' h => ⟨ds.length - (i + 1), by omega, rfl, hlt, h⟩, fun x H' hy => ?_⟩
        obtain ⟨W2, k2, g2, rfl, d2⟩ := yl x H' hy
        rw [List.drop_eq_getElem_cons hlt] at px
        unfold gLoop at px
        cases e1 : f ds[i] cx with
        | none => simp only [e1] at px; exact px.elim
        | some c1 =>
          simp only [e1] at px
          refine hg W2 σx cx c1 x _ _ k2 (sx.gr g2) d2 e1 fun σ' s' _ _ => ?_
          refine hb W2 σ' c1 _ k2 (ux.gr g2) s' ?_
          have f2 : Same W1.F W2.F := fx.trans g2.f
          cases e2 : gb c1 with
          | none => rw [e2] at px; exact px.elim
          | some o =>
            rw [e2] at px
            cases o with
            | nx c2 => exact fun W3 σ3 k3 u3 f3 s3 => ⟨W3, c2, rfl, k3, u3, f2.trans f3, s3, px⟩
            | ct c2 => exact fun W3 σ3 k3 u3 f3 s3 => ⟨W3, c2, rfl, k3, u3, f2.trans f3, s3, px⟩
            | bk c2 => exact fun W3 σ3 k3 u3 f3 s3 => px W3 σ3 k3 u3 (f2.trans f3) s3
            | ret d => exact fun W3 v k3 u3 f3 d3 => px W3 v k3 u3 (f2.trans f3) d3
            | ex C ns es => exact fun W3 dx fs k3 u3 f3 => px W3 dx fs k3 u3 (f2.trans f3)
            | own t => exact fun W3 v as k3 u3 f3 => px W3 v as k3 u3 (f2.trans f3)
      · left
        have hi : i = ds.length := by omega
        subst hi
        rw [List.drop_length] at px
        exact ⟨(y1 Wx _ kx fx).1 (Nat.le_refl _), px Wx σx kx ux fx sx⟩
theorem yields_list {F : Hp} {a : Addr} {xs : List V} {ds : List D} (h : SqL K F a xs) (hd : DenL K F xs ds) : Yields K F (Itl K a) ds := by
  intro W i k f
  have hq : SqL K W.H a xs := (k.fh).seq (f.seq h)
  have inj : ∀ ys, SqL K W.H a ys → True := fun _ _ => trivial
  refine ⟨fun hi => ⟨xs, hq, by rw [hd.length]; exact hi⟩, fun d e => ?_⟩
  obtain ⟨v, hv, dv⟩ := hd.get e
  refine ⟨⟨xs, v, hq, hv⟩, fun x H' y => ⟨W, k, Gr.refl W, y.1.symm, ?_⟩⟩
  have := y.2 xs hq
  rw [hv] at this; cases this
  exact dv.up f
theorem yields_tup {F : Hp} {a : Addr} {xs : List V} {ds : List D} (h : SqT K F a xs) (hd : DenL K F xs ds) : Yields K F (Itt K a) ds := by
  intro W i k f
  have hq : SqT K W.H a xs := sqT_same k.fh (sqT_same f h)
  refine ⟨fun hi => ⟨xs, hq, by rw [hd.length]; exact hi⟩, fun d e => ?_⟩
  obtain ⟨v, hv, dv⟩ := hd.get e
  refine ⟨⟨xs, v, hq, hv⟩, fun x H' y => ⟨W, k, Gr.refl W, y.1.symm, ?_⟩⟩
  have := y.2 xs hq
  rw [hv] at this; cases this
  exact dv.up f
/-- a list or a tuple is walked -/
def iSeq (K : PySem.W.Frag) (tl : TE) : TI := fun σ H R => tl σ H fun x H1 => ∃ a, x = .ref a ∧ ((∃ xs, SqL K H1 a xs ∧ R (Itl K a) H1) ∨ (∃ xs, SqT K H1 a xs ∧ R (Itt K a) H1))
theorem pi_seq {X : Cx} {tg l : Expr} {tl : TE} (hl : PE X l tl) : PI X tg l (iSeq X.K tl) := by
  refine ⟨fun pins s σ H R I h => ?_⟩
  refine thn (hl.run pins s σ H _ I h) fun v s1 ⟨x, H1, I1, r1, q1⟩ => ?_
  obtain ⟨a, e, q1⟩ := q1
  subst e
  cases r1
  rcases q1 with ⟨xs, hq, q⟩ | ⟨xs, hq, q⟩
  · obtain ⟨its, rv, p, hz⟩ := I1.list hq
    refine wpAny_pyIter_list p.isList ?_
    refine ⟨s1.heap.objs.size, [s1.heap.objs.size], _, _, H1, rfl, I1.kept (t' := s1.toks) fun b o e => Heap.get?_push_of_some _ e, turn_list a _, ⟨_, Heap.get?_push_size _ rfl, rfl, rfl⟩, fun b hb => ?_, q⟩
    have e : b = s1.heap.objs.size := by simpa using hb
    subst e
    exact I1.fpOk (Nat.le_refl _) (I1.hok.fresh (Nat.le_refl _))
  · obtain ⟨its, rv, p, hz⟩ := I1.tuple hq
    have p2 : s1.heap.IsTuple a its.toArray := p
    refine wpAny_pyIter_tuple p2 ?_
    refine ⟨s1.heap.objs.size, [s1.heap.objs.size], _, _, H1, rfl, I1.kept (t' := s1.toks) fun b o e => Heap.get?_push_of_some _ e, turn_tuple a _, ⟨_, Heap.get?_push_size _ rfl, rfl, rfl⟩, fun b hb => ?_, q⟩
    have e : b = s1.heap.objs.size := by simpa using hb
    subst e
    exact I1.fpOk (Nat.le_refl _) (I1.hok.fresh (Nat.le_refl _))
theorem vi_seq {te : TE} {g : GE} (h : VT K W0 true te g) : VI K W0 (iSeq K te) (gItems g) := by
  intro W σ c ds R k u s e q
  unfold gItems at e
  split at e
  · rename_i d hd
    refine h W σ c d _ k u s hd fun W1 v k1 g1 d1 => ?_
    cases d with
    | lst es =>
      cases e
      cases d1 with
      | lst h1 h2 => exact ⟨_, rfl, .inl ⟨_, SqL.of (k1.fh _ _ h1), q W1 _ k1 g1 (yields_list (SqL.of h1) h2)⟩⟩
    | scr es =>
      cases e
      cases d1 with
      | scr h1 h2 => exact ⟨_, rfl, .inl ⟨_, k1.fh.seq h1, q W1 _ k1 g1 (yields_list h1 h2)⟩⟩
    | tup es =>
      cases e
      cases d1 with
      | tup h1 h2 => exact ⟨_, rfl, .inr ⟨_, sqT_same k1.fh h1, q W1 _ k1 g1 (yields_tup h1 h2)⟩⟩
    | _ => cases e
  · cases e
def rgD (a : Int) (n : Nat) : List D := (List.range n).map fun i => .int (a + (i : Nat))
theorem rgD_len (a : Int) (n : Nat) : (rgD a n).length = n := by simp [rgD]
theorem rgD_get {a : Int} {n i : Nat} {d : D} (h : (rgD a n)[i]? = some d) : i < n ∧ d = .int (a + (i : Nat)) := by
  have hi : i < n := by have := (List.getElem?_eq_some_iff.mp h).1; rwa [rgD_len] at this
  refine ⟨hi, ?_⟩
  unfold rgD at h
  rw [List.getElem?_map, List.getElem?_range hi] at h
  exact (Option.some.inj h).symm
theorem yields_range {F : Hp} {a : Int} {n : Nat} : Yields K F (Itr a n) (rgD a n) := by
  intro W i k f
  refine ⟨fun hi => by rw [rgD_len] at hi; exact hi, fun d e => ?_⟩
  obtain ⟨hi, rfl⟩ := rgD_get e
  exact ⟨hi, fun x H' y => ⟨W, k, Gr.refl W, y.1.symm, by rw [y.2]; exact .int _⟩⟩
def gRg1 (gs : GA) : GA := fun c => match gs c with
  | some [.int j] => if -(2 ^ 62) ≤ j ∧ j < 2 ^ 62 then some (rgD 0 j.toNat) else none
  | _ => none
def gRg2 (gs : GA) : GA := fun c => match gs c with
  | some [.int i, .int j] => if -(2 ^ 62) ≤ i ∧ i < 2 ^ 62 ∧ -(2 ^ 62) ≤ j ∧ j < 2 ^ 62 then some (rgD i (j - i).toNat) else none
  | _ => none
theorem vi_rg1 {b : Bool} {ts : TA} {gs : GA} (h : VArg K W0 b ts gs) : VI K W0 (iRng1 ts) (gRg1 gs) := by
  intro W σ c ds R k u s e q
  unfold gRg1 at e
  split at e
  · rename_i j hj
    split at e
    · rename_i hz
      cases e
      refine h W σ c _ _ k u s hj fun W1 vs k1 g1 d1 => ?_
      cases d1 with
      | cons h1 h2 => cases h1; cases h2; exact ⟨j, rfl, hz.1, hz.2, q W1 _ k1 g1 yields_range⟩
    · cases e
  · cases e
theorem vi_rg2 {b : Bool} {ts : TA} {gs : GA} (h : VArg K W0 b ts gs) : VI K W0 (iRng2 ts) (gRg2 gs) := by
  intro W σ c ds R k u s e q
  unfold gRg2 at e
  split at e
  · rename_i i j hj
    split at e
    · rename_i hz
      cases e
      refine h W σ c _ _ k u s hj fun W1 vs k1 g1 d1 => ?_
      cases d1 with
      | cons h1 h2 =>
        cases h2 with
        | cons h2 h3 => cases h1; cases h2; cases h3; exact ⟨i, j, rfl, hz, q W1 _ k1 g1 yields_range⟩
    · cases e
  · cases e
/-! a text's signs -/
def gSigns (g : GE) : GA := fun c => match g c with
  | some (.str x) => some (x.cps.toList.map fun n => .str ⟨#[n]⟩)
  | _ => none
theorem vi_str {b : Bool} {te : TE} {g : GE} (h : VT K W0 b te g) : VI K W0 (iStr te) (gSigns g) := by
  intro W σ c ds R k u s e q
  unfold gSigns at e
  split at e
  · rename_i x hx
    cases e
    refine h W σ c _ _ k u s hx fun W1 v k1 g1 d1 => ?_
    cases d1
    refine ⟨x, rfl, q W1 _ k1 g1 fun W2 i k2 f2 => ?_⟩
    refine ⟨fun hi => ?_, fun d hd => ?_⟩
    · simp only [List.length_map, Array.length_toList] at hi
      exact hi
    · rw [List.getElem?_map] at hd
      simp only [Option.map_eq_some_iff] at hd
      obtain ⟨n, h1, h2⟩ := hd
      subst h2
      have hn : x.cps[i]? = some n := by simpa using h1
      refine ⟨?_, fun y H' hy => ⟨W2, k2, Gr.refl W2, ?_, ?_⟩⟩
      · exact (Array.getElem?_eq_some_iff.mp hn).1
      · exact hy.1.symm
      · obtain ⟨_, m, e1, e2⟩ := hy
        rw [hn] at e1
        cases e1
        rw [e2]
        exact .str _
  · cases e
/-! while, with fuel -/
def gWl (p : GB) (gb : GS) : Nat → Env → Option Out
  | 0, _ => none
  | n + 1, c => match p c with
    | none => none
    | some false => some (.nx c)
    | some true => match gb c with
      | some (.nx c2) => gWl p gb n c2
      | some (.ct c2) => gWl p gb n c2
      | some (.bk c2) => some (.nx c2)
      | r => r
def gWhile (fuel : Env → Nat) (p : GB) (gb : GS) : GS := fun c => gWl p gb (fuel c) c
theorem vs_while (fuel : Env → Nat) {tt : TT} {p : GB} {tb : TS} {gb : GS} (hp : VB K W0 tt p) (hb : VS K W0 E tb gb) : VS K W0 E (tWhile tt tb) (gWhile fuel p gb) := by
  intro W σ c D k u s q
  refine ⟨fun m σ H => ∃ Wx cx, Wx.H = H ∧ WOk Wx ∧ Up W0 Wx ∧ Same W.F Wx.F ∧ SD K W0 Wx σ cx ∧ Post K E W0 W.F D (gWl p gb m cx), ⟨fuel c, W, c, rfl, k, u, Same.refl _, s, q⟩, ?_⟩
  rintro m σx H ⟨Wx, cx, rfl, kx, ux, fx, sx, px⟩
  cases m with
  | zero => exact px.elim
  | succ n =>
    unfold gWl at px
    cases e : p cx with
    | none => rw [e] at px; exact px.elim
    | some b =>
      rw [e] at px
      refine hp Wx σx cx b _ kx ux sx e fun W2 k2 g2 => ?_
      cases b with
      | false => rw [if_neg Bool.false_ne_true]; exact px W2 σx k2 (ux.gr g2) (fx.trans g2.f) (sx.gr g2)
      | true =>
        rw [if_pos rfl]
        refine ⟨fun σ' H' => ∃ Wy cy, Wy.H = H' ∧ WOk Wy ∧ Up W0 Wy ∧ Same W.F Wy.F ∧ SD K W0 Wy σ' cy ∧ Post K E W0 W.F D (gWl p gb n cy), fun σ' H' h => ⟨n, Nat.lt_succ_self n, h⟩, ?_⟩
        refine hb W2 σx cx _ k2 (ux.gr g2) (sx.gr g2) ?_
        have f2 : Same W.F W2.F := fx.trans g2.f
        cases e2 : gb cx with
        | none => rw [e2] at px; exact px.elim
        | some o =>
          rw [e2] at px
          cases o with
          | nx c2 => exact fun W3 σ3 k3 u3 f3 s3 => ⟨W3, c2, rfl, k3, u3, f2.trans f3, s3, px⟩
          | ct c2 => exact fun W3 σ3 k3 u3 f3 s3 => ⟨W3, c2, rfl, k3, u3, f2.trans f3, s3, px⟩
          | bk c2 => exact fun W3 σ3 k3 u3 f3 s3 => px W3 σ3 k3 u3 (f2.trans f3) s3
          | ret d => exact fun W3 v k3 u3 f3 d3 => px W3 v k3 u3 (f2.trans f3) d3
          | ex C ns es => exact fun W3 dx fs k3 u3 f3 => px W3 dx fs k3 u3 (f2.trans f3)
          | own t => exact fun W3 v as k3 u3 f3 => px W3 v as k3 u3 (f2.trans f3)
end
end VL
end

section
/-! VD: comprehensions, defs and calls by data. -/
namespace VL
open PySem PySem.Spec PyProof.Rows L2
section
variable {K : KW} {E : XK}

/-! ### a list comprehension -/
def wipeC (c : Env) : List Nat → Env
  | [] => c
  | v :: vs => (wipeC c vs).set v none
theorem wipeC_len (c : Env) : ∀ vs, (wipeC c vs).length = c.length
  | [] => rfl
  | v :: vs => by unfold wipeC; rw [List.length_set, wipeC_len c vs]
theorem sd_wipe {W0 W : Wd} {σ : L2.St} {c : Env} (s : SD K W0 W σ c) : ∀ vs : List Nat, SD K W0 W (wipe σ vs) (wipeC c vs)
  | [] => s
  | v :: vs => by
    unfold wipe wipeC
    exact sd_set (sd_wipe s vs) v none none trivial fun l h => (noHold_none h).elim
theorem wipe_eq {σ τ : L2.St} (hl : σ.length = τ.length) : ∀ {vs : List Nat}, (∀ k, k ∉ vs → σ[k]? = τ[k]?) → wipe σ vs = wipe τ vs := by
  intro vs h
  apply List.ext_getElem?
  intro i
  have key : ∀ (ρ : L2.St) (vs : List Nat), (wipe ρ vs)[i]? = if i ∈ vs then (if i < ρ.length then some none else none) else ρ[i]? := by
    intro ρ vs
    induction vs with
    | nil => simp [wipe]
    | cons v vs ih =>
      unfold wipe
      by_cases hv : v = i
      · subst hv
        rw [List.getElem?_set_self']
        rw [ih]
        by_cases hm : v ∈ vs
        · rw [if_pos hm, if_pos (List.mem_cons_self ..)]
          split <;> rfl
        · rw [if_neg hm, if_pos (List.mem_cons_self ..)]
          by_cases hi : v < ρ.length
          · rw [List.getElem?_eq_getElem hi, if_pos hi]; rfl
          · rw [List.getElem?_eq_none (by omega), if_neg hi]; rfl
      · rw [List.getElem?_set_ne hv, ih]
        have : i ∈ v :: vs ↔ i ∈ vs := by simp [Ne.symm hv]
        by_cases hm : i ∈ vs
        · rw [if_pos hm, if_pos (this.mpr hm)]
        · rw [if_neg hm, if_neg (fun z => hm (this.mp z))]
  rw [key σ vs, key τ vs, hl]
  by_cases hm : i ∈ vs
  · rw [if_pos hm, if_pos hm]
  · rw [if_neg hm, if_neg hm]; exact h i hm
theorem wipe_wipe (σ : L2.St) (vs : List Nat) : wipe (wipe σ vs) vs = wipe σ vs := by
  apply List.ext_getElem?
  intro i
  have key : ∀ (ρ : L2.St) (ws : List Nat), i ∈ ws → (wipe ρ ws)[i]? = (if i < ρ.length then some none else none) := by
    intro ρ ws
    induction ws with
    | nil => intro h; cases h
    | cons v vs ih =>
      intro hm
      unfold wipe
      by_cases hv : v = i
      · subst hv
        by_cases hi : v < ρ.length
        · rw [List.getElem?_set_self (by rw [wipe_length]; exact hi), if_pos hi]
        · rw [List.getElem?_eq_none (by rw [List.length_set, wipe_length]; omega), if_neg hi]
      · rw [List.getElem?_set_ne hv]
        rcases List.mem_cons.mp hm with z | z
        · exact absurd z.symm hv
        · exact ih z
  have key2 : ∀ (ρ : L2.St) (ws : List Nat), i ∉ ws → (wipe ρ ws)[i]? = ρ[i]? := by
    intro ρ ws
    induction ws with
    | nil => intro _; rfl
    | cons v vs ih =>
      intro hm
      unfold wipe
      rw [List.getElem?_set_ne (fun z => hm (by rw [z]; exact List.mem_cons_self ..))]
      exact ih fun z => hm (List.mem_cons_of_mem _ z)
  by_cases hm : i ∈ vs
  · rw [key _ _ hm, key _ _ hm, wipe_length]
  · rw [key2 _ _ hm]
def gLcL (f : D → Env → Option Env) (p : GB) (g : GE) (c : Env) : List D → Option (List D)
  | [] => some []
  | d :: ds => match f d c with
    | none => none
    | some c1 => match p c1 with
      | none => none
      | some false => gLcL f p g c ds
      | some true => match g c1 with
        | none => none
        | some y => match gLcL f p g c ds with
          | some ys => some (y :: ys)
          | none => none
def gLc (gi : GA) (f : D → Env → Option Env) (p : GB) (g : GE) (vs : List Nat) : GA := fun c => match gi c with
  | some ds => if ds.length ≤ sizeLine then gLcL f p g (wipeC c vs) ds else none
  | none => none
def gYes : GB := fun _ => some true
theorem vb_yes : VB K W0 tYes gYes := fun W σ c d Q k u s e q => by cases e; exact q W k (Gr.refl W)
theorem gLcL_len {f : D → Env → Option Env} {p : GB} {g : GE} {c : Env} : ∀ {ds ys : List D}, gLcL f p g c ds = some ys → ys.length ≤ ds.length
  | [], ys, h => by cases h; exact Nat.le_refl _
  | d :: ds, ys, h => by
    unfold gLcL at h
    split at h
    · cases h
    · split at h
      · cases h
      · have := gLcL_len h
        simp; omega
      · split at h
        · cases h
        · split at h
          · rename_i zs hz
            cases h
            have := gLcL_len hz
            simp; omega
          · cases h
theorem vn_lc {wi : TI} {gi : GA} {tg : TG} {vs js : List Nat} {f : D → Env → Option Env} {tt : TT} {p : GB} {te : TE} {g : GE}
    (hi : VI K W0 wi gi) (hg : VG K W0 tg js f) (hj : ∀ j ∈ js, j ∈ vs) (hp : VB K W0 tt p) (he : VT K W0 true te g) : VN K W0 (tLc wi tg tt te vs) (gLc gi f p g vs) := by
  intro W σ c ys Q k u s e q
  unfold gLc at e
  split at e
  · rename_i ds hds
    split at e
    · rename_i hz
      refine hi W σ c ds _ k u s hds fun W1 J k1 g1 y1 => fun Dd hD => ?_
      have s1 := sd_wipe (s.gr g1) vs
      refine ⟨fun i m H => m = ds.length - i ∧ i ≤ ds.length ∧ ∃ Wx accV accD rest, Wx.H = H ∧ WOk Wx ∧ Gr W1 ⟨fun a => if a = Dd then none else Wx.H a, Wx.G, Wx.F⟩ ∧ Wx.H Dd = some (.lst accV) ∧ Wx.G Dd = none ∧ Wx.F Dd = none ∧ SD K W0 Wx (wipe σ vs) (wipeC c vs) ∧ Up W0 Wx ∧
        accD.length ≤ i ∧ DenL K Wx.F accV accD ∧ gLcL f p g (wipeC c vs) (ds.drop i) = some rest ∧ ys = accD ++ rest, ?_, ?_⟩
      · refine ⟨_, rfl, Nat.zero_le _, ⟨upd W1.H Dd (.lst []), W1.G, W1.F⟩, [], [], ys, rfl, ⟨k1.fg, k1.gh.trans (same_upd hD), k1.gt⟩, ⟨fun a o h => ?_, Same.refl _, Same.refl _, fun _ _ _ => rfl, fun _ _ _ => rfl⟩, upd_same, k1.nG hD, k1.nF hD, ?_, ?_, Nat.le_refl _, .nil, by rw [List.drop_zero]; exact e, rfl⟩
        · show (if a = Dd then none else upd W1.H Dd _ a) = some o
          have ne : a ≠ Dd := ne_of_none h hD
          rw [if_neg ne, upd_ne ne]; exact h
        · exact s1.gr ⟨same_upd hD, Same.refl _, Same.refl _, fun _ _ _ => rfl, fun _ _ _ => rfl⟩
        · exact (u.gr g1).gr ⟨same_upd hD, Same.refl _, Same.refl _, fun _ _ _ => rfl, fun _ _ _ => rfl⟩
      · rintro i m H ⟨rfl, him, Wx, accV, accD, rest, rfl, kx, gx, hDx, gDx, fDx, sx, ux, hlen, hacc, hrest, hys⟩
        have fx : Same W1.F Wx.F := gx.f
        by_cases hlt : i < ds.length
        · right
          have hd : ds[i]? = some ds[i] := List.getElem?_eq_getElem hlt
          obtain ⟨go, yl⟩ := (y1 Wx i kx fx).2 _ hd
          rw [List.drop_eq_getElem_cons hlt] at hrest
          refine ⟨go, fun H' => ∃ Wy accV accD rest, Wy.H = H' ∧ WOk Wy ∧ Gr W1 ⟨fun a => if a = Dd then none else Wy.H a, Wy.G, Wy.F⟩ ∧ Wy.H Dd = some (.lst accV) ∧ Wy.G Dd = none ∧ Wy.F Dd = none ∧ SD K W0 Wy (wipe σ vs) (wipeC c vs) ∧ Up W0 Wy ∧
            accD.length ≤ i + 1 ∧ DenL K Wy.F accV accD ∧ gLcL f p g (wipeC c vs) (ds.drop (i + 1)) = some rest ∧ ys = accD ++ rest, fun H' h => ⟨ds.length - (i + 1), by omega, rfl, hlt, h⟩, fun x H' hy => ?_⟩
          obtain ⟨W2, k2, g2, rfl, d2⟩ := yl x H' hy
          have step : ∀ {Wa Wb : Wd}, Gr Wa Wb → Wa.H Dd = some (.lst accV) → Wa.G Dd = none → Wa.F Dd = none → Gr W1 ⟨fun a => if a = Dd then none else Wa.H a, Wa.G, Wa.F⟩ →
              Wb.H Dd = some (.lst accV) ∧ Wb.G Dd = none ∧ Wb.F Dd = none ∧ Gr W1 ⟨fun a => if a = Dd then none else Wb.H a, Wb.G, Wb.F⟩ := by
            intro Wa Wb gab h1 h2 h3 h4
            refine ⟨gab.h _ _ h1, (gab.go _ _ h1).trans h2, (gab.fo _ _ h1).trans h3, ⟨fun a o h => ?_, h4.g.trans gab.g, h4.f.trans gab.f, fun a o h => ?_, fun a o h => ?_⟩⟩
            · have z := h4.h a o h
              have z' : (if a = Dd then none else Wa.H a) = some o := z
              split at z'
              · cases z'
              · rename_i ne
                show (if a = Dd then none else Wb.H a) = some o
                rw [if_neg ne]; exact gab.h _ _ z'
            · have z : (if a = Dd then none else Wa.H a) = some o := h4.h a o h
              split at z
              · cases z
              · exact (gab.go _ _ z).trans (h4.go a o h)
            · have z : (if a = Dd then none else Wa.H a) = some o := h4.h a o h
              split at z
              · cases z
              · exact (gab.fo _ _ z).trans (h4.fo a o h)
          obtain ⟨hD2, gD2, fD2, gr2⟩ := step g2 hDx gDx fDx gx
          unfold gLcL at hrest
          cases e1 : f ds[i] (wipeC c vs) with
          | none => rw [e1] at hrest; cases hrest
          | some c1 =>
            simp only [e1] at hrest
            refine hg W2 _ _ c1 x _ _ k2 (sx.gr g2) d2 e1 fun σ' s' l' a' => ⟨?_, ?_⟩
            · rw [← wipe_wipe σ vs]
              exact wipe_eq l' fun j' hj' => a' j' fun z => hj' (hj j' z)
            cases e2 : p c1 with
            | none => rw [e2] at hrest; cases hrest
            | some b =>
              simp only [e2] at hrest
              refine hp W2 σ' c1 b _ k2 (ux.gr g2) s' e2 fun W3 k3 g3 => ?_
              obtain ⟨hD3, gD3, fD3, gr3⟩ := step g3 hD2 gD2 fD2 gr2
              cases b with
              | false =>
                rw [if_neg Bool.false_ne_true]
                exact ⟨W3, accV, accD, rest, rfl, k3, gr3, hD3, gD3, fD3, (sx.gr g2).gr g3, (ux.gr g2).gr g3, by omega, (hacc.up g2.f).up g3.f, hrest, hys⟩
              | true =>
                rw [if_pos rfl]
                cases e3 : g c1 with
                | none => simp only [e3] at hrest; cases hrest
                | some y =>
                  simp only [e3] at hrest
                  refine he W3 σ' c1 y _ k3 ((ux.gr g2).gr g3) (s'.gr g3) e3 fun W4 v k4 g4 d4 => ?_
                  obtain ⟨hD4, gD4, fD4, gr4⟩ := step g4 hD3 gD3 fD3 gr3
                  have hacc4 := ((hacc.up g2.f).up g3.f).up g4.f
                  cases e4 : gLcL f p g (wipeC c vs) (ds.drop (i + 1)) with
                  | none => simp only [e4] at hrest; cases hrest
                  | some r2 =>
                    simp only [e4] at hrest
                    cases hrest
                    have ne4 : ∀ a o, W4.G a = some o → a ≠ Dd := fun a o h z => by rw [z, gD4] at h; cases h
                    refine ⟨accV, hD4, by rw [hacc4.length]; omega, ⟨upd W4.H Dd (.lst (accV ++ [v])), W4.G, W4.F⟩, accV ++ [v], accD ++ [y], r2, rfl, ⟨k4.fg, fun a o h => ?_, k4.gt⟩, ?_, upd_same, gD4, fD4, ?_, ?_, by simp; omega, hacc4.append (.cons d4 .nil), rfl, by rw [hys]; simp⟩
                    · show upd W4.H Dd _ a = some o
                      rw [upd_ne (ne4 a o h)]; exact k4.gh a o h
                    · refine ⟨fun a o h => ?_, gr4.g, gr4.f, gr4.go, gr4.fo⟩
                      have z : (if a = Dd then none else W4.H a) = some o := gr4.h a o h
                      show (if a = Dd then none else upd W4.H Dd _ a) = some o
                      split at z
                      · cases z
                      · rename_i ne; rw [if_neg ne, upd_ne ne]; exact z
                    · have sx4 := ((sx.gr g2).gr g3).gr g4
                      have nW0 : W0.H Dd = none := (u.gr g1).h.free hD
                      have mv : ∀ (j : Nat) b0 t v' as, (wipe σ vs)[j]? = some (some v') → (wipeC c vs)[j]? = some (some (.tre b0 t)) → TOk K W0 W4 v' t as → TOk K W0 ⟨upd W4.H Dd (.lst (accV ++ [v])), W4.G, W4.F⟩ v' t as := by
                        intro j b0 t v' as h1 h2 h3
                        refine TOk.move (W := W4) (W' := ⟨upd W4.H Dd (.lst (accV ++ [v])), W4.G, W4.F⟩) (W0 := W0) (W0' := W0) (Same.refl _) (fun _ e => e) t v' as (fun l hl => ⟨upd_ne ?_, rfl, rfl⟩) h3
                        intro zz
                        obtain ⟨⟨us, e0, e⟩, _⟩ := TOk.there t v' as h3 l hl
                        rcases e with ⟨e, _⟩ | ⟨_, _, _, _, e⟩
                        · rw [zz, gD4] at e; cases e
                        · subst e; rw [zz, hD4] at e0; cases e0
                      refine ⟨sx4.len, fun j z w h1 h2 => ?_, sx4.one_move mv⟩
                      have okc := sx4.ok j z w h1 h2
                      have nh : ∀ l, Holds K W0 W1 z w l → l ≠ Dd := fun l hh zz => by
                        obtain ⟨o, ho⟩ := hold_there s1 h1 h2 hh
                        rw [zz, hD] at ho; cases ho
                      cases w with
                      | none => trivial
                      | some cl =>
                        cases cl with
                        | fz d => exact okc
                        | own es =>
                          obtain ⟨l2, us, a1, a2, a3, a4, a5, a6⟩ := okc
                          exact ⟨l2, us, a1, (upd_ne (nh l2 (.inl ⟨a1, rfl⟩))).trans a2, a3, a4, a5, a6⟩
                        | exc C ns es =>
                          obtain ⟨us, a1, a2, a3, a4⟩ := okc
                          refine ⟨us, a1, (upd_ne ?_).trans a2, a3, a4⟩
                          exact ne_of a2 hD4 (by intro z; cases z)
                        | slf C ns es =>
                          obtain ⟨us, a1, a2, a3, a4, a5, a6, a7⟩ := okc
                          exact ⟨us, a1, (upd_ne (nh _ (.inl ⟨a1, rfl⟩))).trans a2, a3, a4, a5, a6, a7⟩
                        | tre b0 t =>
                          obtain ⟨v', as, a1, a2, a3⟩ := okc
                          subst a1
                          exact ⟨v', as, rfl, mv j _ t v' as h1 h2 a2, a3⟩
                    · have ux4 := ((ux.gr g2).gr g3).gr g4
                      have nW0 : W0.H Dd = none := (u.gr g1).h.free hD
                      refine ⟨fun a o h => ?_, ux4.f, ux4.fo⟩
                      show upd W4.H Dd _ a = some o
                      rw [upd_ne (ne_of_none h nW0)]; exact ux4.h a o h
        · left
          have hi' : i = ds.length := by omega
          subst hi'
          rw [List.drop_length] at hrest
          cases hrest
          rw [List.append_nil] at hys
          subst hys
          refine ⟨(y1 Wx _ kx fx).1 (Nat.le_refl _), ?_⟩
          have e5 : Wx.H = upd (fun a => if a = Dd then none else Wx.H a) Dd (.lst accV) := by
            funext a
            unfold upd
            by_cases ha : a = Dd
            · rw [if_pos ha, ha]; exact hDx
            · rw [if_neg ha]; exact (if_neg ha).symm
          rw [e5]
          refine q ⟨fun a => if a = Dd then none else Wx.H a, Wx.G, Wx.F⟩ Dd accV ⟨kx.fg, fun a o h => ?_, kx.gt⟩ (g1.trans gx) (if_pos rfl) hacc
          show (if a = Dd then none else Wx.H a) = some o
          rw [if_neg (fun z => by rw [z, gDx] at h; cases h)]
          exact kx.gh a o h
    · cases e
  · cases e

/-! ### defs -/
inductive Res where
  | val (d : D)
  | exn (C : Addr) (ns : List Str) (ds : List D)
/-- what a def promises: m of its arguments -/
def spP (K : KW) (m : List D → Option Res) : Sp := fun vs H Q E => ∃ (F : Hp) (ds : List D) (r : Res), Same F H ∧ DenL K F vs ds ∧ m ds = some r ∧
  match r with
  | .val d => ∀ H' F' v, Same H H' → Same F F' → Same F' H' → (∀ a o, H a = some o → F' a = F a) → Den K F' v d → Q v H'
  | .exn C ns es => ∀ H' F' dx fs, Same H H' → Same F F' → Same F' H' → (∀ a o, H a = some o → F' a = F a) → H dx = none → H' dx = some (.xd fs) → fs.map (·.1) = ns → DenL K F' (fs.map (·.2)) es → E (.ref C) (some dx) H'
/-- the def of n parameters and nn names whose body does g -/
def outRes : Option Out → Option Res
  | some (.nx _) => some (.val .non)
  | some (.ret d) => some (.val d)
  | some (.ex C ns ds) => some (.exn C ns ds)
  | _ => none
def envOf (nn : Nat) (ds : List D) : Env := ds.map (fun d => some (.fz d)) ++ List.replicate (nn - ds.length) none
def mOf (n nn : Nat) (g : GS) : List D → Option Res := fun ds => if ds.length = n then outRes (g (envOf nn ds)) else none
theorem mOf_len {n nn : Nat} {g : GS} {ds : List D} {r : Res} (h : mOf n nn g ds = some r) : ds.length = n ∧ outRes (g (envOf nn ds)) = some r := by
  unfold mOf at h
  split at h
  · exact ⟨by assumption, h⟩
  · cases h
theorem spP_len {m : List D → Option Res} {n : Nat} (hm : ∀ ds r, m ds = some r → ds.length = n) : ∀ vs H Q E, spP K m vs H Q E → vs.length = n := by
  rintro vs H Q E' ⟨F, ds, r, hF, hd, e, _⟩
  rw [hd.length]
  exact hm ds r e
theorem sd_start {W : Wd} {N : List Str} {vs : List V} {ds : List D} {W0 : Wd} (h : DenL K W.F vs ds) : SD K W0 W (L2.start N vs) (envOf N.length ds) := by
  have hl := h.length
  refine ⟨by simp [L2.start, envOf, hl], fun i x y h1 h2 => ?_, fun i j x y z w l h1 h2 h3 h4 h5 h6 => ?_⟩
  · by_cases hi : i < ds.length
    · have e1 : (envOf N.length ds)[i]? = some (some (.fz ds[i])) := by
        unfold envOf
        rw [List.getElem?_append_left (by simpa using hi)]
        simp [hi]
      have e2 : (L2.start N vs)[i]? = some (some vs[i]) := by
        unfold L2.start
        rw [List.getElem?_append_left (by simpa [hl] using hi)]
        simp [hl, hi]
      rw [e1] at h2; cases h2
      rw [e2] at h1; cases h1
      obtain ⟨v, hv, dv⟩ := h.get (List.getElem?_eq_getElem hi)
      have : vs[i]? = some vs[i] := List.getElem?_eq_getElem (by omega)
      rw [this] at hv; cases hv
      exact ⟨_, rfl, dv⟩
    · have : y = none := by
        unfold envOf at h2
        rw [List.getElem?_append_right (by simpa using Nat.le_of_not_lt hi)] at h2
        rw [List.getElem?_replicate] at h2
        split at h2
        · exact (Option.some.inj h2).symm
        · cases h2
      subst this
      trivial
  · have nh : ∀ (i : Nat) y x, (envOf N.length ds)[i]? = some y → Holds K W0 W x y l → False := by
      intro i y x h2 h5
      by_cases hi : i < ds.length
      · have e1 : (envOf N.length ds)[i]? = some (some (.fz ds[i])) := by
          unfold envOf
          rw [List.getElem?_append_left (by simpa using hi)]
          simp [hi]
        rw [e1] at h2; cases h2
        exact noHold_fz h5
      · unfold envOf at h2
        rw [List.getElem?_append_right (by simpa using Nat.le_of_not_lt hi)] at h2
        rw [List.getElem?_replicate] at h2
        split at h2
        · cases h2; exact noHold_none h5
        · cases h2
    exact (nh i y x h2 h5).elim
/-- THE RULE for a def's body -/
theorem run_def {N : List Str} {n nn : Nat} {ts : TS} {g : GS} {vs : List V} {H : Hp} {Q : VK} (hN : N.length = nn) (hv : ∀ W0, VS K W0 E ts g) (h : spP K (mOf n nn g) vs H Q E) : ts { nx := fun _ H' => Q .non H', rt := Q } (L2.start N vs) H := by
  obtain ⟨F, ds, r, hF, hd, e, q⟩ := h
  obtain ⟨hl, e⟩ := mOf_len e
  subst hN
  refine hv ⟨H, F, F⟩ ⟨H, F, F⟩ (L2.start N vs) (envOf N.length ds) _ ⟨Same.refl _, hF, fun _ _ e _ => e⟩ ⟨Same.refl _, Same.refl _, fun _ _ _ => rfl⟩ (sd_start hd) ?_
  cases eg : g (envOf N.length ds) with
  | none => rw [eg] at e; cases e
  | some o =>
    rw [eg] at e
    cases o with
    | nx c => cases e; exact fun W σ k u f s => q W.H W.F .non u.h u.f k.fh u.fo .non
    | ret d => cases e; exact fun W v k u f hd => q W.H W.F v u.h u.f k.fh u.fo hd
    | bk c => cases e
    | ct c => cases e
    | own t => cases e
    | ex C ns es => cases e; exact fun W dx fs k u f h1 h2 h3 h4 => q W.H W.F dx fs u.h u.f k.fh u.fo h2 h1 h3 h4
/-- behind a call: the callee's settled heap F' -/
def Wd.aft (W : Wd) (b : Bool) (H' F' : Hp) : Wd := ⟨H', fun a => match W.H a with
  | some _ => W.G a
  | none => F' a, fun a => match W.H a with
  | some _ => W.F a
  | none => F' a⟩
theorem aft_ok {W : Wd} (k : WOk W) {b : Bool} {H' F' : Hp} (h : Same W.H H') (f : Same (W.at b) F') (fh : Same F' H') (fo : ∀ a o, W.H a = some o → F' a = W.at b a) :
    WOk (W.aft b H' F') ∧ Gr W (W.aft b H' F') ∧ Same F' ((W.aft b H' F').at b) := by
  have g1 : ∀ a o, W.H a = some o → (W.aft b H' F').G a = W.G a := fun a o e => by
    show (match W.H a with | some _ => W.G a | none => F' a) = _
    rw [e]
  have f1 : ∀ a o, W.H a = some o → (W.aft b H' F').F a = W.F a := fun a o e => by
    show (match W.H a with | some _ => W.F a | none => F' a) = _
    rw [e]
  have g2 : ∀ a, W.H a = none → (W.aft b H' F').G a = F' a := fun a e => by
    show (match W.H a with | some _ => W.G a | none => F' a) = _
    rw [e]
  have f2 : ∀ a, W.H a = none → (W.aft b H' F').F a = F' a := fun a e => by
    show (match W.H a with | some _ => W.F a | none => F' a) = _
    rw [e]
  refine ⟨⟨fun a o e => ?_, fun a o e => ?_, fun a xs e ht => ?_⟩, ⟨h, fun a o e => ?_, fun a o e => ?_, g1, f1⟩, fun a o e => ?_⟩
  · cases c : W.H a with
    | some u => rw [f1 a u c] at e; rw [g1 a u c]; exact k.fg a o e
    | none => rw [f2 a c] at e; rw [g2 a c]; exact e
  · cases c : W.H a with
    | some u => rw [g1 a u c] at e; exact h a o (k.gh a o e)
    | none => rw [g2 a c] at e; exact fh a o e
  · cases c : W.H a with
    | some u => rw [g1 a u c] at e; rw [f1 a u c]; exact k.gt a xs e ht
    | none => rw [g2 a c] at e; rw [f2 a c]; exact e
  · rw [g1 a o (k.gh a o e)]; exact e
  · rw [f1 a o (k.fh a o e)]; exact e
  · cases c : W.H a with
    | some u =>
      rw [fo a u c] at e
      cases b
      · show (W.aft false H' F').G a = some o
        rw [g1 a u c]; exact e
      · show (W.aft true H' F').F a = some o
        rw [f1 a u c]; exact e
    | none =>
      cases b
      · show (W.aft false H' F').G a = some o
        rw [g2 a c]; exact e
      · show (W.aft true H' F').F a = some o
        rw [f2 a c]; exact e
def gFn (m : List D → Option Res) (gs : GA) : GE := fun c => match gs c with
  | some ds => match m ds with
    | some (.val d) => some d
    | _ => none
  | none => none
theorem vt_call {b : Bool} {m : List D → Option Res} {ts : TA} {gs : GA} {E' : XK} (h : VArg K W0 b ts gs) : VT K W0 b (tCall (spP K m) [] E' ts) (gFn m gs) := by
  intro W σ c d Q k u s e q
  unfold gFn at e
  split at e
  · rename_i ds hds
    split at e
    · rename_i d' hm
      cases e
      refine h W σ c ds _ k u s hds fun W1 vs k1 g1 d1 => ?_
      rw [List.append_nil]
      refine ⟨W1.at b, ds, .val d, k1.atH b, d1, hm, fun H' F' v a1 a2 a3 a4 a5 => ?_⟩
      obtain ⟨k2, g2, f2⟩ := aft_ok k1 a1 a2 a3 a4
      exact q (W1.aft b H' F') v k2 (g1.trans g2) (a5.up f2)
    · cases e
  · cases e
/-- a call that may raise, as a statement -/
def gCallX (m : List D → Option Res) (gs : GA) (nxt : D → GS) : GS := fun c => match gs c with
  | some ds => match m ds with
    | some (.val d) => nxt d c
    | some (.exn C ns es) => some (.ex C ns es)
    | none => none
  | none => none
theorem vs_exprX {m : List D → Option Res} {ts : TA} {gs : GA} (h : VArg K W0 true ts gs) : VS K W0 E (tDrop (tCall (spP K m) [] E ts)) (gCallX m gs fun _ c => some (.nx c)) := by
  intro W σ c D k u s q
  unfold gCallX at q
  cases e : gs c with
  | none => rw [e] at q; exact q.elim
  | some ds =>
    simp only [e] at q
    refine h W σ c ds _ k u s e fun W1 vs k1 g1 d1 => ?_
    rw [List.append_nil]
    cases e2 : m ds with
    | none => simp only [e2] at q; exact q.elim
    | some r =>
      cases r with
      | val d =>
        simp only [e2] at q
        refine ⟨W1.F, ds, .val d, k1.fh, d1, e2, fun H' F' v a1 a2 a3 a4 a5 => ?_⟩
        obtain ⟨k2, g2, f2⟩ := aft_ok (b := true) k1 a1 a2 a3 a4
        exact q (W1.aft true H' F') σ k2 ((u.gr g1).gr g2) (g1.f.trans g2.f) ((s.gr g1).gr g2)
      | exn C ns es =>
        simp only [e2] at q
        refine ⟨W1.F, ds, .exn C ns es, k1.fh, d1, e2, fun H' F' dx fs a1 a2 a3 a4 a5 a6 a7 a8 => ?_⟩
        obtain ⟨k2, g2, f2⟩ := aft_ok (b := true) k1 a1 a2 a3 a4
        exact q (W1.aft true H' F') dx fs k2 ((u.gr g1).gr g2) (g1.f.trans g2.f) a6 ((u.gr g1).h.free a5) a7 (a8.up f2)
theorem vs_asgX {i : Nat} {m : List D → Option Res} {ts : TA} {gs : GA} (h : VArg K W0 true ts gs) : VS K W0 E (tAsg (tCall (spP K m) [] E ts) (gName i)) (gCallX m gs fun d c => some (.nx (c.set i (some (.fz d))))) := by
  intro W σ c D k u s q
  unfold gCallX at q
  cases e : gs c with
  | none => rw [e] at q; exact q.elim
  | some ds =>
    simp only [e] at q
    refine h W σ c ds _ k u s e fun W1 vs k1 g1 d1 => ?_
    rw [List.append_nil]
    cases e2 : m ds with
    | none => simp only [e2] at q; exact q.elim
    | some r =>
      cases r with
      | val d =>
        simp only [e2] at q
        refine ⟨W1.F, ds, .val d, k1.fh, d1, e2, fun H' F' v a1 a2 a3 a4 a5 => ?_⟩
        obtain ⟨k2, g2, f2⟩ := aft_ok (b := true) k1 a1 a2 a3 a4
        exact q (W1.aft true H' F') _ k2 ((u.gr g1).gr g2) (g1.f.trans g2.f) (sd_fz ((s.gr g1).gr g2) i (a5.up f2))
      | exn C ns es =>
        simp only [e2] at q
        refine ⟨W1.F, ds, .exn C ns es, k1.fh, d1, e2, fun H' F' dx fs a1 a2 a3 a4 a5 a6 a7 a8 => ?_⟩
        obtain ⟨k2, g2, f2⟩ := aft_ok (b := true) k1 a1 a2 a3 a4
        exact q (W1.aft true H' F') dx fs k2 ((u.gr g1).gr g2) (g1.f.trans g2.f) a6 ((u.gr g1).h.free a5) a7 (a8.up f2)

/-! ### instances -/
def lookD : List Str → List D → Str → Option D
  | n :: ns, d :: ds, f => if n = f then some d else lookD ns ds f
  | _, _, _ => none
theorem look_den {H : Hp} {f : Str} {d : D} : ∀ {ns : List Str} {ds : List D} {fs : List (Str × V)}, fs.map (·.1) = ns → DenL K H (fs.map (·.2)) ds → lookD ns ds f = some d → ∃ v, fs.lookup f = some v ∧ Den K H v d
  | [], _, fs, h1, h2, h3 => by simp [lookD] at h3
  | n :: ns, [], fs, h1, h2, h3 => by simp [lookD] at h3
  | n :: ns, e :: ds, [], h1, h2, h3 => by cases h1
  | n :: ns, e :: ds, (m, v) :: fs, h1, h2, h3 => by
    simp only [List.map_cons, List.cons.injEq] at h1
    obtain ⟨rfl, h1⟩ := h1
    cases h2 with
    | cons h4 h5 =>
      unfold lookD at h3
      by_cases hm : m = f
      · subst hm
        rw [if_pos rfl] at h3
        cases h3
        exact ⟨v, by simp [List.lookup], h4⟩
      · rw [if_neg hm] at h3
        obtain ⟨w, h6, h7⟩ := look_den h1 h5 h3
        have hb : (f == m) = false := by simpa using Ne.symm hm
        exact ⟨w, by simp [List.lookup, hb, h6], h7⟩
/-- o.f, the class of o at C -/
def gFld (C : Addr) (f : Str) (g : GE) : GE := fun c => match g c with
  | some (.ins C' ns ds) => if C' = C then lookD ns ds f else none
  | _ => none
theorem vt_fld {b : Bool} {C : Addr} {te : TE} {g : GE} {f : Str} (hc : Cls K C) (hn : NoAttr K C f) (h : VT K W0 b te g) : VT K W0 b (tFld K te f) (gFld C f g) := by
  intro W σ c d Q k u s e q
  unfold gFld at e
  split at e
  · rename_i C' ns ds hg
    split at e
    · rename_i hC
      subst hC
      refine h W σ c _ _ k u s hg fun W1 v k1 g1 d1 => ?_
      cases d1 with
      | ins h1 h2 h3 =>
        obtain ⟨w, h4, h5⟩ := look_den h2 h3 e
        exact ⟨_, _, _, _, w, rfl, k1.atH b _ _ h1, hc, hn, h4, q W1 w k1 g1 h5⟩
    · cases e
  · cases e
/-- __init__ of the class at C: the attributes that it leaves -/
def spI (K : KW) (C : Addr) (m : List D → Option (List Str × List D)) : Sp := fun vs H Q _ => ∃ (x dx : Addr) (us : List V) (F : Hp) (ds : List D) (ns : List Str) (es : List D), vs = .ref x :: us ∧ H x = some (.ins C dx []) ∧ F x = none ∧ Same F H ∧ DenL K F us ds ∧ m ds = some (ns, es) ∧
  ∀ H' F' fs, (∀ a o, a ≠ x → H a = some o → H' a = some o) → Same F F' → F' x = none → Same F' H' → (∀ a o, H a = some o → F' a = F a) → H' x = some (.ins C dx fs) → fs.map (·.1) = ns → DenL K F' (fs.map (·.2)) es → Q .non H'
def gMake (C : Addr) (m : List D → Option (List Str × List D)) (gs : GA) : GE := fun c => match gs c with
  | some ds => match m ds with
    | some (ns, es) => some (.ins C ns es)
    | none => none
  | none => none
theorem vt_make {b : Bool} {C : Addr} {m : List D → Option (List Str × List D)} {ts : TA} {gs : GA} {E' : XK} (h : VArg K W0 b ts gs) : VT K W0 b (tMake C (spI K C m) [] E' ts) (gMake C m gs) := by
  intro W σ c d Q k u s e q
  unfold gMake at e
  split at e
  · rename_i ds hds
    split at e
    · rename_i ns es hm
      cases e
      refine h W σ c ds _ k u s hds fun W1 vs k1 g1 d1 => fun x dx hx hdx hne => ?_
      rw [List.append_nil]
      have Fx : (W1.at b) x = none := (k1.atH b).free hx
      have nex : ∀ a o, (W1.at b) a = some o → a ≠ x := fun a o z => ne_of_none z Fx
      have nedx : ∀ a o, (W1.at b) a = some o → a ≠ dx := fun a o z => ne_of_none z ((k1.atH b).free hdx)
      refine ⟨x, dx, vs, W1.at b, ds, ns, es, rfl, upd_same, Fx, fun a o z => ?_, d1, hm, fun H' F' fs a1 a2 a3 a4 a5 a6 a7 a8 => ⟨rfl, ?_⟩⟩
      · rw [upd_ne (nex a o z), upd_ne (nedx a o z)]; exact k1.atH b a o z
      · have hH : Same W1.H H' := fun a o z => a1 a o (ne_of_none z hx) (by rw [upd_ne (ne_of_none z hx), upd_ne (ne_of_none z hdx)]; exact z)
        have F2 : Same (W1.at b) (upd F' x (.ins C dx fs)) := a2.trans (same_upd a3)
        have F3 : Same (upd F' x (.ins C dx fs)) H' := fun a o z => by
          by_cases ha : a = x
          · subst ha; rw [upd_same] at z; cases z; exact a6
          · rw [upd_ne ha] at z; exact a4 a o z
        have F4 : ∀ a o, W1.H a = some o → (upd F' x (.ins C dx fs)) a = W1.at b a := fun a o z => by
          have n1 := ne_of_none z hx
          rw [upd_ne n1]
          exact a5 a o (by rw [upd_ne n1, upd_ne (ne_of_none z hdx)]; exact z)
        obtain ⟨k2, g2, f2⟩ := aft_ok (b := b) k1 hH F2 F3 F4
        exact q (W1.aft b H' (upd F' x (.ins C dx fs))) _ k2 (g1.trans g2) (Den.up (.ins upd_same a7 (a8.up (same_upd a3))) f2)
    · cases e
  · cases e
/-- self.f = e in __init__, f a new attribute -/
def gFldS (C : Addr) (i : Nat) (f : Str) (g : GE) : GS := fun c => match c[i]? with
  | some (some (.slf C' ns ds)) => match g c with
    | some d => if C' = C ∧ f ∉ ns ∧ ns.length < 1000 then some (.nx (c.set i (some (.slf C' (ns ++ [f]) (ds ++ [d]))))) else none
    | none => none
  | _ => none
theorem putF_new {f : Str} {v : V} : ∀ {fs : List (Str × V)}, f ∉ fs.map (·.1) → putF f v fs = fs ++ [(f, v)]
  | [], _ => rfl
  | (g, x) :: r, h => by
    unfold putF
    rw [List.map_cons, List.mem_cons, not_or] at h
    rw [if_neg (Ne.symm h.1), putF_new h.2]
    rfl
theorem vs_fldS {i : Nat} {te : TE} {g : GE} {f : Str} {C : Addr} (hc : Cls K C) (hn : NoAttr K C f) (h : VT K W0 true te g) :
    VS K W0 E (sFld K (tVar i) te f) (gFldS C i f g) := by
  intro W σ c D k u s q
  unfold gFldS at q
  split at q
  · rename_i C' ns' ds' hc'
    cases e : g c with
    | none => simp only [e] at q; exact q.elim
    | some d =>
      simp only [e] at q
      by_cases hf : C' = C ∧ f ∉ ns' ∧ ns'.length < 1000
      · rw [if_pos hf] at q
        obtain ⟨rfl, hf1, hf2⟩ := hf
        refine h W σ c d _ k u s e fun W1 v k1 g1 d1 => ?_
        have s1 := s.gr g1
        obtain ⟨x, hx, fs, rfl, e1, e2, e3, e4, e5, e6⟩ := s1.at hc'
        subst e5
        refine ⟨_, hx, W0.sa, _, W0.sd, fs, rfl, e1, hc, hn, by rw [List.length_map] at hf2; exact hf2, ?_⟩
        rw [putF_new hf1]
        have neG : ∀ b o, W1.G b = some o → b ≠ W0.sa := fun b o z w => by rw [w, e2] at z; cases z
        have mv : ∀ (j : Nat) b0 t v' as, σ[j]? = some (some v') → c[j]? = some (some (.tre b0 t)) → TOk K W0 W1 v' t as → TOk K W0 ⟨upd W1.H W0.sa (.ins C' W0.sd (fs ++ [(f, v)])), W1.G, W1.F⟩ v' t as := by
          intro j b0 t v' as h1 h2 h3
          refine TOk.move (W := W1) (W' := ⟨upd W1.H W0.sa (.ins C' W0.sd (fs ++ [(f, v)])), W1.G, W1.F⟩) (W0 := W0) (W0' := W0) (Same.refl _) (fun _ e => e) t v' as (fun l hl => ⟨upd_ne ?_, rfl, rfl⟩) h3
          intro zz
          have hij := s1.one i j _ _ _ _ l hx hc' h1 h2 (.inl ⟨by rw [zz], rfl⟩) (.inr ⟨_, t, v', as, rfl, rfl, h3, hl⟩)
          subst hij
          rw [hc'] at h2; cases h2
        refine q ⟨upd W1.H W0.sa (.ins C' W0.sd (fs ++ [(f, v)])), W1.G, W1.F⟩ σ ⟨k1.fg, fun b o z => ?_, k1.gt⟩ ⟨fun b o z => ?_, (u.gr g1).f, (u.gr g1).fo⟩ g1.f ⟨by simp [s1.len], fun j z w h1 h2 => ?_, fun j m z w z' w' l h1 h2 h3 h4 h5 h6 => ?_⟩
        · show upd W1.H W0.sa _ b = some o
          rw [upd_ne (neG b o z)]; exact k1.gh b o z
        · show upd W1.H W0.sa _ b = some o
          rw [upd_ne (fun w => by rw [w, e4] at z; cases z)]; exact (u.gr g1).h b o z
        · by_cases hij : i = j
          · subst hij
            rw [List.getElem?_set_self (List.getElem?_eq_some_iff.mp hc').1] at h2
            cases h2
            rw [hx] at h1; cases h1
            exact ⟨fs ++ [(f, v)], rfl, upd_same, e2, e3, e4, by simp, by rw [List.map_append]; exact e6.append (.cons d1 .nil)⟩
          · rw [List.getElem?_set_ne hij] at h2
            have okc := s1.ok j z w h1 h2
            have nl : ∀ l, Holds K W0 W1 z w l → l ≠ W0.sa := fun l hh zz => hij (s1.one i j _ _ _ _ W0.sa hx hc' h1 h2 (.inl ⟨rfl, rfl⟩) (zz ▸ hh))
            cases w with
            | none => trivial
            | some cl =>
              cases cl with
              | fz d => exact okc
              | own es =>
                obtain ⟨l2, us, a1, a2, a3, a4, a5, a6⟩ := okc
                exact ⟨l2, us, a1, (upd_ne (nl l2 (.inl ⟨a1, rfl⟩))).trans a2, a3, a4, a5, a6⟩
              | exc C ns es =>
                obtain ⟨us, a1, a2, a3, a4⟩ := okc
                exact ⟨us, a1, (upd_ne (ne_of a2 e1 (by intro z; cases z))).trans a2, a3, a4⟩
              | slf C ns es =>
                obtain ⟨us, a1, a2, a3, a4, a5, a6, a7⟩ := okc
                exact ⟨us, a1, (upd_ne (nl _ (.inl ⟨a1, rfl⟩))).trans a2, a3, a4, a5, a6, a7⟩
              | tre b0 t =>
                obtain ⟨v', as, a1, a2, a3⟩ := okc
                subst a1
                exact ⟨v', as, rfl, mv j _ t v' as h1 h2 a2, a3⟩
        · have one' := s1.one_move (W0' := W0) (W' := ⟨upd W1.H W0.sa (.ins C' W0.sd (fs ++ [(f, v)])), W1.G, W1.F⟩) mv
          have back : ∀ (j : Nat) x y, σ[j]? = some x → (c.set i (some (.slf C' (fs.map (·.1) ++ [f]) (ds' ++ [d]))))[j]? = some y → Holds K W0 ⟨upd W1.H W0.sa (.ins C' W0.sd (fs ++ [(f, v)])), W1.G, W1.F⟩ x y l → ∃ y', c[j]? = some y' ∧ Holds K W0 ⟨upd W1.H W0.sa (.ins C' W0.sd (fs ++ [(f, v)])), W1.G, W1.F⟩ x y' l := by
            intro j x y q1 q2 q3
            by_cases hij : i = j
            · subst hij
              rw [List.getElem?_set_self (List.getElem?_eq_some_iff.mp hc').1] at q2
              cases q2
              rcases q3 with q3 | ⟨b0, t, v, as, q3, _⟩
              · exact ⟨_, hc', .inl ⟨q3.1, rfl⟩⟩
              · cases q3
            · rw [List.getElem?_set_ne hij] at q2
              exact ⟨_, q2, q3⟩
          obtain ⟨y1, a1, b1⟩ := back j z w h1 h2 h5
          obtain ⟨y2, a2, b2⟩ := back m z' w' h3 h4 h6
          exact one' j m _ _ _ _ l h1 a1 h3 a2 b1 b2
      · rw [if_neg hf] at q; exact q.elim
  · exact q.elim
theorem spI_len {C : Addr} {m : List D → Option (List Str × List D)} {n : Nat} (hm : ∀ ds r, m ds = some r → ds.length = n) : ∀ vs H Q E, spI K C m vs H Q E → vs.length = n + 1 := by
  rintro vs H Q E' ⟨x, dx, us, F, ds, ns, es, rfl, _, _, _, hd, e, _⟩
  rw [List.length_cons, hd.length, hm ds _ e]
def envI (C : Addr) (nn : Nat) (ds : List D) : Env := some (.slf C [] []) :: (ds.map (fun d => some (.fz d)) ++ List.replicate (nn - 1 - ds.length) none)
/-- what an __init__ of n parameters beside self and nn names leaves -/
def iOf (C : Addr) (n nn : Nat) (g : GS) : List D → Option (List Str × List D) := fun ds => if ds.length = n then match g (envI C nn ds) with
  | some (Out.nx c) => match (c[0]? : Option (Option Cell)) with
    | some (some (Cell.slf C' ns es)) => if C' = C then some (ns, es) else none
    | _ => none
  | _ => none
  else none
theorem iOf_len {C : Addr} {n nn : Nat} {g : GS} {ds : List D} {r : List Str × List D} (h : iOf C n nn g ds = some r) : ds.length = n := by
  unfold iOf at h
  split at h
  · assumption
  · cases h
theorem iOf_some {C : Addr} {n nn : Nat} {g : GS} {ds : List D} {ns : List Str} {es : List D} (h : iOf C n nn g ds = some (ns, es)) : ∃ c, g (envI C nn ds) = some (.nx c) ∧ c[0]? = some (some (.slf C ns es)) := by
  unfold iOf at h
  split at h
  · split at h
    · rename_i c hc
      split at h
      · rename_i C' ns' es' h0
        split at h
        · rename_i e; cases h; subst e; exact ⟨c, hc, h0⟩
        · cases h
      · cases h
    · cases h
  · cases h
/-- THE RULE for an __init__ -/
theorem run_init {N : List Str} {C : Addr} {nn : Nat} {ts : TS} {g : GS} {n : Nat} {vs : List V} {H : Hp} {Q : VK} {E' : XK} (hN : N.length = nn) (hv : ∀ W0, VS K W0 E ts g)
    (h : spI K C (iOf C n nn g) vs H Q E') : ts { nx := fun _ H' => Q .non H', rt := Q } (L2.start N vs) H := by
  obtain ⟨x, dx, us, F, ds, ns, es, rfl, hx, hFx, hF, hd, e, q⟩ := h
  obtain ⟨cE, hcE, hc0⟩ := iOf_some e
  subst hN
  have hlen := hd.length
  have neF : ∀ a o, F a = some o → a ≠ x := fun a o z w => by rw [w, hFx] at z; cases z
  let W0 : Wd := ⟨fun a => if a = x then none else H a, fun b => if b = 2 then some (.own x) else if b = 3 then some (.own dx) else none, F⟩
  have u0 : Up W0 ⟨H, F, F⟩ := ⟨fun a o z => by
    have z' : (if a = x then none else H a) = some o := z
    split at z'
    · cases z'
    · exact z', Same.refl _, fun _ _ _ => rfl⟩
  have s0 : SD K W0 ⟨H, F, F⟩ (L2.start N (V.ref x :: us)) (envI C N.length ds) := by
    have est : L2.start N (V.ref x :: us) = some (V.ref x) :: (us.map some ++ List.replicate (N.length - 1 - us.length) none) := by
      unfold L2.start
      rw [List.map_cons, List.cons_append, List.length_cons]
      congr 3
      omega
    have hok : ∀ (i : Nat) y z, (us.map some ++ List.replicate (N.length - 1 - us.length) none)[i]? = some y → (ds.map (fun d => some (Cell.fz d)) ++ List.replicate (N.length - 1 - ds.length) none)[i]? = some z → CellOk K W0 ⟨H, F, F⟩ y z ∧ ∀ l, ¬ Holds K W0 ⟨H, F, F⟩ y z l := by
      intro i y z h1 h2
      by_cases hi : i < ds.length
      · rw [List.getElem?_append_left (by simpa using hi)] at h2
        rw [List.getElem?_append_left (by simpa [hlen] using hi)] at h1
        simp [hi] at h2
        simp [hlen, hi] at h1
        subst h1 h2
        obtain ⟨v, hv', dv⟩ := hd.get (List.getElem?_eq_getElem hi)
        have : us[i]? = some us[i] := List.getElem?_eq_getElem (by omega)
        rw [this] at hv'; cases hv'
        exact ⟨⟨_, rfl, dv⟩, fun l => noHold_fz⟩
      · rw [List.getElem?_append_right (by simpa using Nat.le_of_not_lt hi), List.getElem?_replicate] at h2
        split at h2
        · cases h2; exact ⟨trivial, fun l => noHold_none⟩
        · cases h2
    rw [est]
    refine ⟨by simp [hlen, envI], fun i y z h1 h2 => ?_, fun i j y z y' z' l h1 h2 h3 h4 h5 h6 => ?_⟩
    · cases i with
      | zero =>
        cases h1; cases h2
        exact ⟨[], rfl, hx, hFx, hFx, if_pos rfl, rfl, .nil⟩
      | succ i => exact (hok i y z h1 h2).1
    · cases i with
      | zero =>
        cases j with
        | zero => rfl
        | succ j => exact ((hok j y' z' h3 h4).2 l h6).elim
      | succ i => exact ((hok i y z h1 h2).2 l h5).elim
  refine hv W0 ⟨H, F, F⟩ _ _ _ ⟨Same.refl _, hF, fun _ _ e _ => e⟩ u0 s0 ?_
  rw [hcE]
  intro W σ k u f s
  obtain ⟨y, hy, fs, rfl, e1, e2, e3, e4, e5, e6⟩ := s.at hc0
  replace e1 : W.H x = some (.ins C dx fs) := e1
  replace e3 : W.F x = none := e3
  refine q W.H W.F fs (fun a o ha ho => u.h a o ?_) u.f e3 k.fh (fun a o ho => ?_) e1 e5 e6
  · show (if a = x then none else H a) = some o
    rw [if_neg ha]; exact ho
  · by_cases ha : a = x
    · rw [ha, e3, hFx]
    · exact u.fo a o (by show (if a = x then none else H a) = some o; rw [if_neg ha]; exact ho)
end
end VL
end

section
/-! VE: enumerate of a list or a tuple, list(range), own exceptions raised and caught. -/
namespace PySem
open Sem (wp)
open AutoSeq1 (wpAny_loadPart')
theorem vl_meets_enumerate {v : Value} {o : Obj} {H : Heap → Prop} (B : Begins v o H) :
    Meets (Builtin.«enumerate.__new__» ⟨[.type "enumerate", v], []⟩) (fun _ R s => H s.heap ∧
      R (.ok (.ret (.ref (s.heap.push o).objs.size))) { s with heap := (s.heap.push o).push { cls := .type "enumerate", data := .fields #[.none, .bool false, .ref s.heap.objs.size, rawInt 0, .none, .none] } }) :=
  .of_wp fun prog w A R s h => by
    obtain ⟨hp, g, d, tk, os⟩ := s; obtain ⟨h1, h⟩ := h
    have hsub := sub_enumerate
    have q1 : ∀ {A' : Around} {E : Value → Shared → Prop} {Q : Value → Shared → Prop}, Q (.ref hp.objs.size) ⟨hp.push o, g, d, tk, os⟩ → wpAny (model prog w) A' (pyIter v) Q E ⟨hp, g, d, tk, os⟩ :=
      fun q => B.iter prog w _ _ ⟨hp, g, d, tk, os⟩ _ h1 q
    wp_walk using q1
    refine wpAny_stack_any fun st => wpAny_pure ?_
    split
    · rename_i c _ _ _ _ _
      cases (c == Value.type "enumerate")
      · wp_walk using q1
        exact ⟨_, rfl, h⟩
      · wp_walk using q1
        exact ⟨_, rfl, h⟩
    · wp_walk using q1
      exact ⟨_, rfl, h⟩
theorem vl_call_enumerate {prog : Program} {w : World} {A : Around} {E : Value → Shared → Prop} {s : Shared} {v : Value} {o : Obj} {H : Heap → Prop} {Q : Value → Shared → Prop} (B : Begins v o H) (h1 : H s.heap)
    (h : ∀ h', IsEnum h' (s.heap.objs.size + 1) s.heap.objs.size 0 .none → h'.get? s.heap.objs.size = some o → h'.objs.size = s.heap.objs.size + 2 →
      (∀ b o, s.heap.get? b = some o → h'.get? b = some o) → Q (.ref (s.heap.objs.size + 1)) { s with heap := h' }) :
    wpAny (model prog w) A (call (.type "enumerate") [v]) Q E s := by
  refine callType_new F.called_enumerate (by decide) (F.typeCall_enumerate_1 _) (F.newCall_enumerate_1 _) (fun obj => F.args_object_init_2 obj _) F.entry_enumerate_new
    (vl_meets_enumerate B) ⟨h1, ?_⟩
  have hz : (s.heap.push o).objs.size = s.heap.objs.size + 1 := Heap.size_push ..
  show _ ∧ _
  rw [hz]
  have he : IsEnum ((s.heap.push o).push { cls := .type "enumerate", data := .fields #[.none, .bool false, .ref s.heap.objs.size, rawInt 0, .none, .none] }) (s.heap.objs.size + 1) s.heap.objs.size 0 .none := by
    have := Heap.get?_push_size (s.heap.push o) (o := { cls := .type "enumerate", data := .fields #[.none, .bool false, .ref s.heap.objs.size, rawInt 0, .none, .none] }) rfl
    rw [hz] at this; exact this
  refine ⟨⟨_, he, rfl⟩, h _ he (Heap.get?_push_of_some _ (Heap.get?_push_size _ B.free)) (by rw [Heap.size_push, hz]) fun b o x => Heap.get?_push_of_some _ (Heap.get?_push_of_some _ x)⟩
theorem vl_enumT_end {prog : Program} {w : World} {A : Around} {E : Value → Shared → Prop} {s : Shared} {e it l : Addr} {i : Nat} {items : Array Value} {old : Value} {Q : Option Value → Shared → Prop} (hh : A.handled = none)
    (he : IsEnum s.heap e it i old) (hit : s.heap.IsTupleIter it l i) (hl : s.heap.IsTuple l items) (hx : items[i]? = none)
    (hQ : ∀ h', Heap.ExtBut it s.heap h' → Q none { s with heap := h' }) : wpAny (model prog w) A (pyNext (.ref e)) Q E s := by
  have hT : s.TypeIs (.ref e) "enumerate" := ⟨_, he, rfl⟩
  unfold pyNext
  refine wpAny_bind (wpAny_attempt (wpAny_callSpecial?_slot (name := Str.ofString "__next__") hT F.slot_enumerate_next
    (wpAny_call_entry F.slot_enumerate_next hT F.entry_enumerate_next ?_ (F.args_enumerate_next_1 _))))
  show wpAny _ _ (field (.ref e) 2 >>= _) _ _ _
  refine wpAny_bind (wpAny_field he rfl (x := .ref it) rfl ?_)
  refine wpAny_bind (wpAny_nextOf_tuple_end hh hit hl hx fun h' x he' hx' => ?_)
  obtain ⟨o, ho, hc⟩ := hx'
  refine wpAny_bind (wpAny_isInstance (T := "StopIteration") (b := true) ⟨o, ho, hc⟩ isSubtype_stop ?_)
  exact wpAny_pure (hQ _ he')
end PySem
namespace VL
open PySem PySem.Spec PyProof.Rows L2

/-! ### enumerate(tuple) -/
def IteT (K : PySem.W.Frag) (a : Addr) : It :=
  ⟨fun i H => ∃ (xs : List V) (x : V), SqT K H a xs ∧ xs[i]? = some x, fun i H v H' => ∃ T x, v = .ref T ∧ H T = none ∧ H' = upd H T (.tup [.int (i : Nat), x]) ∧ ∀ xs, SqT K H a xs → xs[i]? = some x, fun i H => ∃ xs : List V, SqT K H a xs ∧ xs.length ≤ i⟩
theorem turn_enumT {P : Program} {w : World} {K : PySem.W.Frag} {elts : List Expr} {kk : Nat} {tpos : Pos} (a e it : Addr) (hai : a ≠ it) (hae : a ≠ e) :
    Turn P w K (.Tuple elts kk tpos) (IteT K a) [e, it] e (fun i h => (∃ old, IsEnum h e it ((i : Nat) : Int) old) ∧ h.IsTupleIter it a i ∧ e ≠ it) where
  mem := by simp
  obj := fun i h st b hb => by
    obtain ⟨⟨old, he⟩, ⟨o, ho, hc, hd⟩, _⟩ := st
    have e' : b = e ∨ b = it := by simpa using hb
    rcases e' with z | z
    · rw [z]; exact ⟨_, he, fun v q => nomatch q⟩
    · rw [z]; exact ⟨o, ho, fun v q => by rw [hd] at q; cases q⟩
  keep := fun i h h' st k => let ⟨⟨old, he⟩, hi, hne⟩ := st; ⟨⟨old, k e (by simp) _ he⟩, hi.at fun o q => k it (by simp) o q, hne⟩
  item := by
    intro X hP hw hK hc i pins s σ H E I hf st hg
    subst hP hw hK
    obtain ⟨⟨old, he⟩, hit, hne⟩ := st
    obtain ⟨xs, x, hq, hx⟩ := hg
    obtain ⟨its, rv, p, hz⟩ := I.tuple hq
    have p2 : s.heap.IsTuple a its.toArray := p
    have hlen := rv.length
    have hil' : i < xs.length := (List.getElem?_eq_some_iff.mp hx).1
    have hel : e < s.heap.objs.size := Heap.lt_size he
    have hil : it < s.heap.objs.size := by obtain ⟨_, q, _⟩ := hit; exact Heap.lt_size q
    refine wpAny_pyNext_enum_itemD (fp := [it, a]) (Draws.tuple (prog := X.prog) (w := X.w) (A := X.A.in1) (show X.A.in1.handled = none from I.ok.hd hc) it a hai its.toArray) he ⟨hit, p2⟩ (by simp; omega) hne (by simp [hne, Ne.symm hae]) fun u h' tk hP ho hst hT hsz hk => ?_
    have hu : its[i]? = some u := by simpa using hP
    obtain ⟨u', hu', ru⟩ := rv.get hx
    rw [hu] at hu'; cases hu'
    refine ⟨_, rfl, wpAny_letOwnedTupleGo_enum (s := { s with heap := h', toks := tk + 1 }) ho fun h'' he' sb => ?_⟩
    have hT2 : h''.get? s.heap.objs.size = some { cls := .type "tuple", data := .seq #[.int i tk, u] } := (sb.2 _ (Nat.ne_of_gt hel)).trans hT
    have new : ObjOk X.prog X.w (upd H s.heap.objs.size (.tup [.int (i : Nat), x])) h'' s.heap.objs.size (.tup [.int (i : Nat), x]) :=
      ⟨by show 2 ≤ sizeLine; decide, [.int i tk, u], .cons ⟨_, rfl⟩ (.cons ru .nil), ⟨_, hT2, rfl, _, rfl⟩⟩
    have I1 : Inv X pins σ (upd H s.heap.objs.size (.tup [.int (i : Nat), x])) { s with heap := h'', toks := tk + 1 } :=
      I.turnedNew (ch := [e, it]) (fun b ob hb q => (sb.2 b (fun z => hb (by simp [z]))).trans (hk b ob (fun z => hb (by simp [z])) (fun z => hb (by simp [z])) q)) hf (Nat.le_refl _) new
    refine ⟨.ref s.heap.objs.size, _, I1, rfl, ⟨_, x, rfl, I.hok.fresh (Nat.le_refl _), rfl, fun ys hy => by rw [I.tuple_inj hy hq]; exact hx⟩, ⟨⟨u, ?_⟩, hst.1.at fun o q => (sb.2 it (Ne.symm hne)).trans q, hne⟩, fun b hb => ?_⟩
    · have e1 : ((i + 1 : Nat) : Int) = (i : Int) + 1 := by omega
      rw [e1]; exact he'
    · have hb' : b < s.heap.objs.size := by
        have e' : b = e ∨ b = it := by simpa using hb
        rcases e' with z | z
        · rw [z]; exact hel
        · rw [z]; exact hil
      rw [upd_ne (Nat.ne_of_lt hb')]
      exact (hf b hb).1
  done := by
    intro X hP hw hK hc i pins s σ H E I hf st hg
    subst hP hw hK
    obtain ⟨⟨old, he⟩, hit, hne⟩ := st
    obtain ⟨xs, hq, hx⟩ := hg
    obtain ⟨its, rv, p, hz⟩ := I.tuple hq
    have p2 : s.heap.IsTuple a its.toArray := p
    obtain ⟨f0, f1, f2, f3, f4, f5⟩ := hf it (by simp)
    have hl := rv.length
    exact vl_enumT_end (I.ok.hd hc) he hit p2 (by simp; omega) fun h' eb => ⟨rfl, I.turned (t' := s.toks) (fun b o hb q => eb b o hb q) f0 f1 f3 f4 f5⟩
  self := fun A i s Q E st h => let ⟨⟨_, he⟩, _⟩ := st; wpAny_pyIter_enum he h
/-- enumerate of a list or a tuple -/
def iEnumU (K : PySem.W.Frag) (ta : TA) : TI := fun σ H R => ta σ H fun vs H1 => ∃ a, vs = [.ref a] ∧ ((∃ xs, SqL K H1 a xs ∧ R (Ite K a) H1) ∨ (∃ xs, SqT K H1 a xs ∧ R (IteT K a) H1))
theorem pi_enumU {X : Cx} {e : Expr} {ta : TA} {p pos tpos : Pos} {elts : List Expr} {kk : Nat} (hg : Gl X "enumerate") (hm : X.mg "enumerate" = none) (ha : PA X [e] ta) (hs : starEach [e] X.env = [(false, eval e X.env)] := by rfl) :
    PI X (.Tuple elts kk tpos) (.Call (.Name "enumerate" p) [e] [] pos) (iEnumU X.K ta) := by
  refine ⟨fun pins s σ H R I h => ?_⟩
  refine Call_ (ld_blt I hg hm boot_enumerate (PyProof.Rows.callWith_type1 (thn (ha.run pos pins s σ H _ I h) fun us s1 ⟨vs, H1, I1, r1, q1⟩ => ?_) hs rfl))
  · obtain ⟨a, ev, q⟩ := q1
    subst ev
    cases r1 with
    | cons r rr =>
      cases rr
      cases r
      rcases q with ⟨xs, hq, q⟩ | ⟨xs, hq, q⟩
      · obtain ⟨its, rv, p', hz⟩ := I1.list hq
        refine call_enumerate_list p'.isList fun h' he hit hsz hk => wpAny_pyIter_enum he ?_
        have I2 : Inv X pins σ H1 { s1 with heap := h' } := I1.kept (t' := s1.toks) hk
        refine ⟨s1.heap.objs.size + 1, [s1.heap.objs.size + 1, s1.heap.objs.size], _, _, H1, rfl, I2, turn_enum a (s1.heap.objs.size + 1) s1.heap.objs.size, ⟨⟨.none, he⟩, hit, Nat.succ_ne_self _⟩, fun b hb => ?_, q⟩
        have e' : b = s1.heap.objs.size + 1 ∨ b = s1.heap.objs.size := by simpa using hb
        have hle : s1.heap.objs.size ≤ b := by
          rcases e' with z | z
          · rw [z]; exact Nat.le_add_right _ _
          · rw [z]; exact Nat.le_refl _
        exact I1.fpOk hle (I1.hok.fresh hle)
      · obtain ⟨its, rv, p', hz⟩ := I1.tuple hq
        have p2 : s1.heap.IsTuple a its.toArray := p'
        have hal : a < s1.heap.objs.size := by obtain ⟨o, ho, _⟩ := p2; exact Heap.lt_size ho
        refine vl_call_enumerate (begins_tuple a its.toArray) p2 fun h' he hit hsz hk => wpAny_pyIter_enum he ?_
        have I2 : Inv X pins σ H1 { s1 with heap := h' } := I1.kept (t' := s1.toks) hk
        refine ⟨s1.heap.objs.size + 1, [s1.heap.objs.size + 1, s1.heap.objs.size], _, _, H1, rfl, I2, turn_enumT a (s1.heap.objs.size + 1) s1.heap.objs.size (Nat.ne_of_lt hal) (Nat.ne_of_lt (Nat.lt_succ_of_lt hal)), ⟨⟨.none, he⟩, ⟨_, hit, rfl, rfl⟩, Nat.succ_ne_self _⟩, fun b hb => ?_, q⟩
        have e' : b = s1.heap.objs.size + 1 ∨ b = s1.heap.objs.size := by simpa using hb
        have hle : s1.heap.objs.size ≤ b := by
          rcases e' with z | z
          · rw [z]; exact Nat.le_add_right _ _
          · rw [z]; exact Nat.le_refl _
        exact I1.fpOk hle (I1.hok.fresh hle)
def enD (k : Nat) : List D → List D
  | [] => []
  | d :: ds => .tup [.int k, d] :: enD (k + 1) ds
theorem enD_len : ∀ (k : Nat) (ds : List D), (enD k ds).length = ds.length
  | _, [] => rfl
  | k, d :: ds => by simp [enD, enD_len (k + 1) ds]
theorem enD_get : ∀ {k : Nat} {ds : List D} {i : Nat} {z : D}, (enD k ds)[i]? = some z → ∃ d, ds[i]? = some d ∧ z = .tup [.int ((k + i : Nat) : Int), d]
  | _, [], _, _, h => by simp [enD] at h
  | k, d :: ds, 0, z, h => by simp [enD] at h; exact ⟨d, rfl, h.symm⟩
  | k, d :: ds, i + 1, z, h => by
    simp only [enD, List.getElem?_cons_succ] at h
    obtain ⟨e, h1, h2⟩ := enD_get h
    exact ⟨e, by simpa using h1, by rw [h2, show k + 1 + i = k + (i + 1) by omega]⟩
section
variable {K : KW} {W0 : Wd} {E : XK}
theorem yields_enum {F : Hp} {a : Addr} {xs : List V} {ds : List D} (h : SqL K F a xs) (hd : DenL K F xs ds) : Yields K F (Ite K a) (enD 0 ds) := by
  intro W i k f
  have hq : SqL K W.H a xs := (k.fh).seq (f.seq h)
  refine ⟨fun hi => ⟨xs, hq, by rw [enD_len] at hi; rw [hd.length]; exact hi⟩, fun z e => ?_⟩
  obtain ⟨d, e1, rfl⟩ := enD_get e
  obtain ⟨v, hv, dv⟩ := hd.get e1
  refine ⟨⟨xs, v, hq, hv⟩, fun x H' y => ?_⟩
  obtain ⟨T, u, rfl, hT, rfl, hu⟩ := y
  have := hu xs hq
  rw [hv] at this; cases this
  refine ⟨W.new true T (.tup [.int (i : Nat), v]), new_ok k hT, new_gr k hT, rfl, .tup (SqT.of (new_self (b := true))) ?_⟩
  rw [Nat.zero_add]
  exact new_denL (b := true) k hT (.cons (.int _) (.cons (dv.up f) .nil))
theorem yields_enumT {F : Hp} {a : Addr} {xs : List V} {ds : List D} (h : SqT K F a xs) (hd : DenL K F xs ds) : Yields K F (IteT K a) (enD 0 ds) := by
  intro W i k f
  have hq : SqT K W.H a xs := sqT_same k.fh (sqT_same f h)
  refine ⟨fun hi => ⟨xs, hq, by rw [enD_len] at hi; rw [hd.length]; exact hi⟩, fun z e => ?_⟩
  obtain ⟨d, e1, rfl⟩ := enD_get e
  obtain ⟨v, hv, dv⟩ := hd.get e1
  refine ⟨⟨xs, v, hq, hv⟩, fun x H' y => ?_⟩
  obtain ⟨T, u, rfl, hT, rfl, hu⟩ := y
  have := hu xs hq
  rw [hv] at this; cases this
  refine ⟨W.new true T (.tup [.int (i : Nat), v]), new_ok k hT, new_gr k hT, rfl, .tup (SqT.of (new_self (b := true))) ?_⟩
  rw [Nat.zero_add]
  exact new_denL (b := true) k hT (.cons (.int _) (.cons (dv.up f) .nil))
def gEnum (g : GE) : GA := fun c => match g c with
  | some d => d.items.map (enD 0)
  | none => none
theorem vi_enum {te : TE} {g : GE} (h : VT K W0 true te g) : VI K W0 (iEnumU K (tCons te tNil)) (gEnum g) := by
  intro W σ c ds R k u s e q
  unfold gEnum at e
  split at e
  · rename_i d hd
    simp only [Option.map_eq_some_iff] at e
    obtain ⟨es, e1, e2⟩ := e
    subst e2
    refine h W σ c d _ k u s hd fun W1 v k1 g1 d1 => ?_
    cases d with
    | lst es =>
      cases e1
      cases d1 with
      | lst h1 h2 => exact ⟨_, rfl, .inl ⟨_, SqL.of (k1.fh _ _ h1), q W1 _ k1 g1 (yields_enum (SqL.of h1) h2)⟩⟩
    | scr es =>
      cases e1
      cases d1 with
      | scr h1 h2 => exact ⟨_, rfl, .inl ⟨_, k1.fh.seq h1, q W1 _ k1 g1 (yields_enum h1 h2)⟩⟩
    | tup es =>
      cases e1
      cases d1 with
      | tup h1 h2 => exact ⟨_, rfl, .inr ⟨_, sqT_same k1.fh h1, q W1 _ k1 g1 (yields_enumT h1 h2)⟩⟩
    | _ => cases e1
  · cases e

/-! ### list(range(..)) -/
def VRg (K : KW) (W0 : Wd) (tr : L2.St → Hp → (Int → Int → Hp → Prop) → Prop) (g : Env → Option (Int × Int)) : Prop :=
  ∀ (W : Wd) (σ : L2.St) (c : Env) (r : Int × Int) (Q : Int → Int → Hp → Prop), WOk W → Up W0 W → SD K W0 W σ c → g c = some r → (∀ W', WOk W' → Gr W W' → Q r.1 r.2 W'.H) → tr σ W.H Q
def gR1 (g : GE) : Env → Option (Int × Int) := fun c => match g c with
  | some (.int j) => some (0, j)
  | _ => none
def gR2 (ga gb : GE) : Env → Option (Int × Int) := fun c => match ga c with
  | some (.int i) => match gb c with
    | some (.int j) => some (i, j)
    | _ => none
  | _ => none
theorem vr_1 {b : Bool} {te : TE} {g : GE} (h : VT K W0 b te g) : VRg K W0 (tRg1 te) (gR1 g) := by
  intro W σ c r Q k u s e q
  unfold gR1 at e
  split at e
  · rename_i j hj
    cases e
    exact h W σ c _ _ k u s hj fun W1 v k1 g1 d1 => by cases d1; exact ⟨j, rfl, q W1 k1 g1⟩
  · cases e
theorem vr_2 {b1 b2 : Bool} {ta tb : TE} {ga gb : GE} (ha : VT K W0 b1 ta ga) (hb : VT K W0 b2 tb gb) : VRg K W0 (tRg2 ta tb) (gR2 ga gb) := by
  intro W σ c r Q k u s e q
  unfold gR2 at e
  split at e
  · rename_i i hi
    split at e
    · rename_i j hj
      cases e
      refine ha W σ c _ _ k u s hi fun W1 v k1 g1 d1 => ?_
      cases d1
      exact hb W1 σ c _ _ k1 (u.gr g1) (s.gr g1) hj fun W2 v k2 g2 d2 => by cases d2; exact ⟨i, j, rfl, rfl, q W2 k2 (g1.trans g2)⟩
    · cases e
  · cases e
instance : ∀ a b, Decidable (RgOk a b) := fun a b => by unfold RgOk; infer_instance
def gLRg (g : Env → Option (Int × Int)) : GA := fun c => match g c with
  | some (a, b) => if RgOk a b then some (rgD a (b - a).toNat) else none
  | none => none
theorem den_rg {H : Hp} (a b : Int) : DenL K H (rgV a b) (rgD a (b - a).toNat) := by
  unfold rgV rgD
  generalize List.range (b - a).toNat = l
  induction l with
  | nil => exact .nil
  | cons x l ih => exact .cons (.int _) ih
theorem vn_listRg {tr : L2.St → Hp → (Int → Int → Hp → Prop) → Prop} {g : Env → Option (Int × Int)} (h : VRg K W0 tr g) : VN K W0 (tLstRg tr) (gLRg g) := by
  intro W σ c ds Q k u s e q
  unfold gLRg at e
  split at e
  · rename_i a b hab
    split at e
    · rename_i hz
      cases e
      exact h W σ c _ _ k u s hab fun W1 k1 g1 => ⟨hz, fun l hl => q W1 l _ k1 g1 hl (den_rg a b)⟩
    · cases e
  · cases e

/-! ### own exceptions -/
/-- __init__ of an exception class: one field, two fields -/
def spX1 (C : Addr) (f : Str) : Sp := fun vs H Q _ => ∃ (a : Addr) (y : V), vs = [.ref a, y] ∧ H a = some (exo a C none) ∧ ∀ d, H d = none → d ≠ a → Q .non (upd (upd H d (exd d [(f, y)])) a (exo a C (some d)))
def spX2 (C : Addr) (f g : Str) : Sp := fun vs H Q _ => ∃ (a : Addr) (y z : V), vs = [.ref a, y, z] ∧ H a = some (exo a C none) ∧ ∀ d, H d = none → d ≠ a → Q .non (upd (upd (upd H d (exd d [(f, y)])) a (exo a C (some d))) d (exd d [(g, z), (f, y)]))
theorem x1_run {C : Addr} {f : Str} {N : List Str} {vs : List V} {H : Hp} {Q : VK} {E' : XK} (T : OexC K C) (hf : PySem.W.findIn K (.ref C) f = some none) (h : spX1 C f vs H Q E') :
    tOst K f (tVar 0) (tVar 1) { nx := fun _ H' => Q .non H', rt := Q } (L2.start N vs) H := by
  obtain ⟨a, y, rfl, ha, q⟩ := h
  exact ⟨y, rfl, _, rfl, a, C, rfl, T, hf, .inl ⟨ha, fun d hd hne => q d hd hne⟩⟩
theorem x2_run {C : Addr} {f g : Str} {N : List Str} {vs : List V} {H : Hp} {Q : VK} {E' : XK} (T : OexC K C) (hf : PySem.W.findIn K (.ref C) f = some none) (hg : PySem.W.findIn K (.ref C) g = some none) (h : spX2 C f g vs H Q E') :
    tSeq (tOst K f (tVar 0) (tVar 1)) (tOst K g (tVar 0) (tVar 2)) { nx := fun _ H' => Q .non H', rt := Q } (L2.start N vs) H := by
  obtain ⟨a, y, z, rfl, ha, q⟩ := h
  refine ⟨y, rfl, _, rfl, a, C, rfl, T, hf, .inl ⟨ha, fun d hd hne => ?_⟩⟩
  refine ⟨z, rfl, _, rfl, a, C, rfl, T, hg, .inr ⟨d, [(f, y)], upd_same, ?_, by simp, q d hd hne⟩⟩
  rw [upd_ne hne, upd_same]
def gRaise1 (C : Addr) (f : Str) (g : GA) : GS := fun c => match g c with
  | some [y] => some (.ex C [f] [y])
  | _ => none
def gRaise2 (C : Addr) (f g : Str) (gs : GA) : GS := fun c => match gs c with
  | some [y, z] => some (.ex C [g, f] [z, y])
  | _ => none
theorem del_upd3 {H : Hp} {a d : Addr} {o1 o2 o3 : HO} {x : HO} (ha : H a = none) (hda : d ≠ a) : upd (del (upd (upd (upd H a o1) d o2) a o3) a) d x = upd H d x := by
  funext b
  by_cases hb : b = d
  · subst hb; rw [upd_same, upd_same]
  · rw [upd_ne hb, upd_ne hb]
    by_cases hba : b = a
    · subst hba; rw [del_same, ha]
    · rw [del_ne hba, upd_ne hba, upd_ne hb, upd_ne hba]
theorem del_upd4 {H : Hp} {a d : Addr} {o1 o2 o3 o4 : HO} {x : HO} (ha : H a = none) (hda : d ≠ a) : upd (del (upd (upd (upd (upd H a o1) d o2) a o3) d o4) a) d x = upd H d x := by
  funext b
  by_cases hb : b = d
  · subst hb; rw [upd_same, upd_same]
  · rw [upd_ne hb, upd_ne hb]
    by_cases hba : b = a
    · subst hba; rw [del_same, ha]
    · rw [del_ne hba, upd_ne hb, upd_ne hba, upd_ne hb, upd_ne hba]
theorem vs_raise1 {C : Addr} {f : Str} {ts : TA} {gs : GA} (h : VArg K W0 true ts gs) : VS K W0 E (fun _ σ H => tMkO C (spX1 C f) [] ts σ H fun cls d H' => E cls d H') (gRaise1 C f gs) := by
  intro W σ c D k u s q
  unfold gRaise1 at q
  split at q
  · rename_i y hy
    refine h W σ c _ _ k u s hy fun W1 vs k1 g1 d1 => ?_
    cases d1 with
    | @cons v _ _ _ h1 h2 =>
      cases h2
      refine ⟨by simp, fun a ha => ⟨a, v, rfl, upd_same, fun d hd hne => ⟨rfl, d, _, upd_same, by rw [upd_ne hne, upd_same], ?_, ?_⟩⟩⟩
      · rw [upd_ne hne] at hd; exact hd
      · rw [upd_ne hne] at hd
        rw [del_upd3 ha hne]
        have hn := (u.gr g1).h.free hd
        refine q ⟨upd W1.H d (.xd [(f, v)]), W1.G, W1.F⟩ d [(f, v)] ⟨k1.fg, k1.gh.trans (same_upd hd), k1.gt⟩ ⟨(u.gr g1).h.trans (same_upd hd), (u.gr g1).f, (u.gr g1).fo⟩ g1.f upd_same hn rfl (.cons h1 .nil)
  · exact q.elim
theorem vs_raise2 {C : Addr} {f g : Str} {ts : TA} {gs : GA} (h : VArg K W0 true ts gs) : VS K W0 E (fun _ σ H => tMkO C (spX2 C f g) [] ts σ H fun cls d H' => E cls d H') (gRaise2 C f g gs) := by
  intro W σ c D k u s q
  unfold gRaise2 at q
  split at q
  · rename_i y z hy
    refine h W σ c _ _ k u s hy fun W1 vs k1 g1 d1 => ?_
    cases d1 with
    | @cons v _ _ _ h1 h2 =>
      cases h2 with
      | @cons w _ _ _ h2 h3 =>
        cases h3
        refine ⟨by simp, fun a ha => ⟨a, v, w, rfl, upd_same, fun d hd hne => ⟨rfl, d, _, by rw [upd_ne (Ne.symm hne), upd_same], upd_same, ?_, ?_⟩⟩⟩
        · rw [upd_ne hne] at hd; exact hd
        · rw [upd_ne hne] at hd
          rw [del_upd4 ha hne]
          have hn := (u.gr g1).h.free hd
          refine q ⟨upd W1.H d (.xd [(g, w), (f, v)]), W1.G, W1.F⟩ d [(g, w), (f, v)] ⟨k1.fg, k1.gh.trans (same_upd hd), k1.gt⟩ ⟨(u.gr g1).h.trans (same_upd hd), (u.gr g1).f, (u.gr g1).fo⟩ g1.f upd_same hn rfl (.cons h2 (.cons h1 .nil))
  · exact q.elim

/-! ### try: f(..) except X as n: suite -/
def notExc : Option Cell → Bool
  | some (.exc _ _ _) => false
  | _ => true
def excW (W0 : Wd) (a d : Addr) : Wd := ⟨W0.H, fun b => if b = 0 then some (.own a) else if b = 1 then some (.own d) else W0.G b, W0.F⟩
theorem excW_xa {a d : Addr} : (excW W0 a d).xa = a := rfl
theorem excW_xd {a d : Addr} : (excW W0 a d).xd = d := rfl
theorem sd_excW {W W0' : Wd} {σ : L2.St} {c : Env} (hH : W0'.H = W0.H) (hA : W0'.sa = W0.sa) (hD : W0'.sd = W0.sd) (hK : ∀ k, W0'.anc k = W0.anc k) (hn : c.all notExc = true) (s : SD K W0 W σ c) : SD K W0' W σ c := by
  have mv : ∀ (i : Nat) b0 t v as, σ[i]? = some (some v) → c[i]? = some (some (.tre b0 t)) → TOk K W0 W v t as → TOk K W0' W v t as := fun i b0 t v as _ _ h =>
    TOk.move (Same.refl _) (fun l e => by rw [hH]; exact e) t v as (fun _ _ => ⟨rfl, rfl, rfl⟩) h
  refine ⟨s.len, fun i x y h1 h2 => ?_, s.one_move mv⟩
  have okc := s.ok i x y h1 h2
  have hy : notExc y = true := List.all_eq_true.mp hn y (List.mem_of_getElem? h2)
  cases y with
  | none => trivial
  | some cl =>
    cases cl with
    | fz d => exact okc
    | own ds => obtain ⟨l, vs, a1, a2, a3, a4, a5, a6⟩ := okc; exact ⟨l, vs, a1, a2, a3, a4, by rw [hH]; exact a5, a6⟩
    | slf C ns ds => obtain ⟨fs, a1, a2, a3, a4, a5, a6⟩ := okc; exact ⟨fs, by rw [hA]; exact a1, by rw [hA, hD]; exact a2, by rw [hA]; exact a3, by rw [hA]; exact a4, by rw [hH, hA]; exact a5, a6⟩
    | exc C ns ds => exact absurd hy Bool.false_ne_true
    | tre b0 t => obtain ⟨v, as, a1, a2, a3⟩ := okc; subst a1; exact ⟨v, as, rfl, mv i _ t v as h1 h2 a2, a3.1, fun k e => by rw [hK]; exact a3.2 k e⟩
/-- the body is one call; the exceptions it may raise are of the class at C, which the clause names -/
def gTry (i : Nat) (C : Addr) (m : List D → Option Res) (ga : GA) (gs : GS) : GS := fun c => match ga c with
  | some ds => match m ds with
    | some (.val _) => some (.nx c)
    | some (.exn C' ns es) => if C' = C ∧ (c.set i none).all notExc = true then
        match gs (c.set i (some (.exc C ns es))) with
        | some (.nx c') => if (c'.set i none).all notExc = true then some (.nx (c'.set i none)) else none
        | some (.ret d) => some (.ret d)
        | _ => none
      else none
    | none => none
  | none => none
theorem vs_try {i : Nat} {C : Addr} {cV : Value} {m : List D → Option Res} {ta : TA} {ga : GA} {ts : Addr → Value → Option Addr → TS} {gs : GS} {Wout : WX}
    (hx : PySem.W.exmOne K (.ref C) cV = some true) (ha : VArg K W0 true ta ga) (hs : ∀ a d, VS K (excW W0 a d) E (ts a (.ref C) (some d)) gs) :
    VS K W0 E (fun D σ H => tDrop (tCallS (spP K m) (WE (wAs K cV i ts Wout D)) ta) D σ H) (gTry i C m ga gs) := by
  intro W σ c D k u s q
  unfold gTry at q
  cases e : ga c with
  | none => rw [e] at q; exact q.elim
  | some ds =>
    simp only [e] at q
    refine ha W σ c ds _ k u s e fun W1 vs k1 g1 d1 => ?_
    cases e2 : m ds with
    | none => simp only [e2] at q; exact q.elim
    | some r =>
      cases r with
      | val d =>
        simp only [e2] at q
        refine ⟨W1.F, ds, .val d, k1.fh, d1, e2, fun H' F' v a1 a2 a3 a4 a5 => ?_⟩
        obtain ⟨k2, g2, f2⟩ := aft_ok (b := true) k1 a1 a2 a3 a4
        exact q (W1.aft true H' F') σ k2 ((u.gr g1).gr g2) (g1.f.trans g2.f) ((s.gr g1).gr g2)
      | exn C' ns es =>
        simp only [e2] at q
        by_cases hC : C' = C ∧ (c.set i none).all notExc = true
        · rw [if_pos hC] at q
          obtain ⟨rfl, hne⟩ := hC
          refine ⟨W1.F, ds, .exn C' ns es, k1.fh, d1, e2, fun H' F' dx fs a1 a2 a3 a4 a5 a6 a7 a8 => ?_⟩
          obtain ⟨k2, g2, f2⟩ := aft_ok (b := true) k1 a1 a2 a3 a4
          refine ⟨true, hx, fun _ a na => ?_, fun z => nomatch z⟩
          have u2 := (u.gr g1).gr g2
          have s2 := (s.gr g1).gr g2
          have u3 : Up (excW W0 a dx) (W1.aft true H' F') := ⟨u2.h, u2.f, u2.fo⟩
          have s3 : SD K (excW W0 a dx) (W1.aft true H' F') (σ.set i none) (c.set i none) := sd_excW (W0 := W0) (W0' := excW W0 a dx) rfl rfl rfl (fun _ => rfl) hne (sd_set s2 i none none trivial fun l h => (noHold_none h).elim)
          have s4 : SD K (excW W0 a dx) (W1.aft true H' F') (σ.set i (some (.ref a))) (c.set i (some (.exc C' ns es))) := by
            have z := sd_set s3 i (some (.ref a)) (some (.exc C' ns es)) ⟨fs, rfl, a6, a7, a8.up f2⟩ fun l h => (noHold_exc h).elim
            rw [List.set_set, List.set_set] at z
            exact z
          refine hs a dx (W1.aft true H' F') _ _ _ k2 u3 s4 ?_
          have f3 : Same W.F (W1.aft true H' F').F := g1.f.trans g2.f
          cases e3 : gs (c.set i (some (.exc C' ns es))) with
          | none => rw [e3] at q; exact q.elim
          | some o =>
            rw [e3] at q
            cases o with
            | nx c' =>
              simp only at q
              by_cases hn' : (c'.set i none).all notExc = true
              · rw [if_pos hn'] at q
                intro W3 σ3 k3 u4 f4 s5
                exact q W3 _ k3 ⟨u4.h, u4.f, u4.fo⟩ (f3.trans f4) (sd_excW (W0 := excW W0 a dx) (W0' := W0) rfl rfl rfl (fun _ => rfl) hn' (sd_set s5 i none none trivial fun l h => (noHold_none h).elim))
              · rw [if_neg hn'] at q; exact q.elim
            | ret d => exact fun W3 v k3 u4 f4 d3 => q W3 v k3 ⟨u4.h, u4.f, u4.fo⟩ (f3.trans f4) d3
            | bk c => exact q.elim
            | ct c => exact q.elim
            | ex C ns es => exact q.elim
            | own t => exact q.elim
        · rw [if_neg hC] at q; exact q.elim
/-- n.f in the suite -/
def gXf (i : Nat) (C : Addr) (f : Str) : GE := fun c => match c[i]? with
  | some (some (.exc C' ns es)) => if C' = C then lookD ns es f else none
  | _ => none
theorem vt_xf {b : Bool} {i : Nat} {a d C : Addr} {f : Str} : VT K (excW W0 a d) b (tXf a (.ref C) (some d) C f (tVar i)) (gXf i C f) := by
  intro W σ c z Q k u s e q
  unfold gXf at e
  split at e
  · rename_i C' ns es hc
    split at e
    · rename_i hC
      subst hC
      obtain ⟨x, hx, fs, rfl, e1, e2, e3⟩ := s.at hc
      obtain ⟨v, e4, e5⟩ := look_den e2 e3 e
      exact ⟨_, hx, rfl, rfl, d, fs, v, rfl, e1, e4, q W v k (Gr.refl W) (e5.up (by cases b; exact k.fg; exact Same.refl _))⟩
    · cases e
  · cases e
end
end VL
end

section
/-! VF: what the printed derivations name beside VA .. VE. -/
namespace VL
open PySem PySem.Spec PyProof.Rows L2
section
variable {K : KW} {W0 : Wd} {E : XK} {b : Bool}
def gL (g : GA) : GE := fun c => match g c with
  | some ds => some (.lst ds)
  | none => none
theorem vt_vn {te : TE} {g : GA} (h : VN K W0 te g) : VT K W0 b te (gL g) := by
  have e : gL g = fun c => (g c).map D.lst := by
    funext c
    unfold gL
    cases g c <;> rfl
  rw [e]
  exact h.vt
/-- a, b = x, y -/
def gPar (i j : Nat) (g : GA) : GS := fun c => match g c with
  | some [x, y] => some (.nx ((c.set i (some (.fz x))).set j (some (.fz y))))
  | _ => none
theorem vs_par {i j : Nat} {ta : TA} {g : GA} (h : VArg K W0 true ta g) : VS K W0 E (tPar i j ta) (gPar i j g) := by
  intro W σ c D k u s q
  unfold gPar at q
  split at q
  · rename_i x y hg
    refine h W σ c _ _ k u s hg fun W1 vs k1 g1 d1 => ?_
    cases d1 with
    | cons h1 h2 =>
      cases h2 with
      | cons h2 h3 =>
        cases h3
        exact ⟨_, _, rfl, q W1 _ k1 (u.gr g1) g1.f (sd_fz (sd_fz (s.gr g1) i h1) j h2)⟩
  · exact q.elim
/-- a list or a tuple or a text is walked -/
def iSeqU (K : PySem.W.Frag) (tl : TE) : TI := fun σ H R => tl σ H fun x H1 => (∃ z, x = .str z ∧ R (Its z) H1) ∨ (∃ a, x = .ref a ∧ ((∃ xs, SqL K H1 a xs ∧ R (Itl K a) H1) ∨ (∃ xs, SqT K H1 a xs ∧ R (Itt K a) H1)))
def D.iter : D → Option (List D)
  | .str x => some (x.cps.toList.map fun n => .str ⟨#[n]⟩)
  | .lst ds => some ds | .tup ds => some ds | .scr ds => some ds | _ => none
def gIt (g : GE) : GA := fun c => match g c with
  | some d => d.iter
  | none => none
theorem yields_str {F : Hp} {x : Str} : Yields K F (Its x) (x.cps.toList.map fun n => .str ⟨#[n]⟩) := by
  intro W2 i k2 f2
  refine ⟨fun hi => ?_, fun d hd => ?_⟩
  · simp only [List.length_map, Array.length_toList] at hi
    exact hi
  · rw [List.getElem?_map] at hd
    simp only [Option.map_eq_some_iff] at hd
    obtain ⟨n, h1, h2⟩ := hd
    subst h2
    have hn : x.cps[i]? = some n := by simpa using h1
    refine ⟨?_, fun y H' hy => ⟨W2, k2, Gr.refl W2, ?_, ?_⟩⟩
    · exact (Array.getElem?_eq_some_iff.mp hn).1
    · exact hy.1.symm
    · obtain ⟨_, m, e1, e2⟩ := hy
      rw [hn] at e1
      cases e1
      rw [e2]
      exact .str _
theorem vi_seqU {te : TE} {g : GE} (h : VT K W0 true te g) : VI K W0 (iSeqU K te) (gIt g) := by
  intro W σ c ds R k u s e q
  unfold gIt at e
  split at e
  · rename_i d hd
    refine h W σ c d _ k u s hd fun W1 v k1 g1 d1 => ?_
    cases d with
    | str x =>
      cases e
      cases d1
      exact .inl ⟨x, rfl, q W1 _ k1 g1 yields_str⟩
    | lst es =>
      cases e
      cases d1 with
      | lst h1 h2 => exact .inr ⟨_, rfl, .inl ⟨_, SqL.of (k1.fh _ _ h1), q W1 _ k1 g1 (yields_list (SqL.of h1) h2)⟩⟩
    | scr es =>
      cases e
      cases d1 with
      | scr h1 h2 => exact .inr ⟨_, rfl, .inl ⟨_, k1.fh.seq h1, q W1 _ k1 g1 (yields_list h1 h2)⟩⟩
    | tup es =>
      cases e
      cases d1 with
      | tup h1 h2 => exact .inr ⟨_, rfl, .inr ⟨_, sqT_same k1.fh h1, q W1 _ k1 g1 (yields_tup h1 h2)⟩⟩
    | _ => cases e
  · cases e
/-- isinstance(x, (T1, T2)) -/
def dIsi2 (n m : String) (d : D) : Option D := match d.ty with
  | some t => match kitB t n with
    | some true => some (.bl true)
    | some false => (kitB t m).map .bl
    | none => none
  | none => none
def gIsi2 (n m : String) (g : GE) : GE := fun c => (g c).bind (dIsi2 n m)
theorem vt_isi2 {b1 : Bool} {n m : String} {te : TE} {g : GE} (h : VT K W0 b1 te g) : VT K W0 b (tCB (rIsiT K) (tCons te (tCons (tTup (tCons (tC (.ty n)) (tCons (tC (.ty m)) tNil))) tNil))) (gIsi2 n m g) := by
  intro W σ c d Q k u s e q
  unfold gIsi2 at e
  simp only [Option.bind_eq_some_iff] at e
  obtain ⟨x, e1, e2⟩ := e
  unfold dIsi2 at e2
  split at e2
  · rename_i t ht
    refine h W σ c x _ k u s e1 fun W1 v k1 g1 d1 => ?_
    refine ⟨by show 2 ≤ sizeLine; decide, fun p hp => ?_⟩
    have k2 : WOk (W1.new true p (.tup [.ty n, .ty m])) := new_ok k1 hp
    have g2 : Gr W1 (W1.new true p (.tup [.ty n, .ty m])) := new_gr k1 hp
    have hty : TyX K (upd W1.H p (.tup [.ty n, .ty m])) v (.type t) := ty_run (d1.up ((k1.atH b1).trans (same_upd hp))) ht
    have fin : ∀ r, PySem.W.kitAny K (.type t) [.type n, .type m] = some r → d = .bl r → rIsiT K [v, .ref p] (upd W1.H p (.tup [.ty n, .ty m])) Q := by
      intro r hr hd
      subst hd
      exact ⟨v, p, [.ty n, .ty m], .type t, [.type n, .type m], r, rfl, upd_same, .cons (.ty n) (.cons (.ty m) .nil), hty, hr, q _ _ k2 (g1.trans g2) (.bl r)⟩
    split at e2
    · rename_i hk
      cases e2
      exact fin true (kitAny_cons (kit_ty hk) (fun z => nomatch z) (fun _ => rfl)) rfl
    · rename_i hk
      simp only [Option.map_eq_some_iff] at e2
      obtain ⟨r, h1, h2⟩ := e2
      exact fin r (kitAny_cons (kit_ty hk) (fun _ => kitAny_cons (kit_ty h1) (fun z => by rw [z]; exact kitAny_nil) (fun z => z)) (fun z => nomatch z)) h2.symm
    · cases e2
  · cases e2
end
/-! ### walks of texts, lists, tuples; a def by its name -/
theorem pi_seqU {X : Cx} {tg l : Expr} {tl : TE} (hl : PE X l tl) : PI X tg l (iSeqU X.K tl) := by
  refine ⟨fun pins s σ H R I h => ?_⟩
  refine thn (hl.run pins s σ H _ I h) fun v s1 ⟨x, H1, I1, r1, q1⟩ => ?_
  rcases q1 with ⟨z, e, q⟩ | ⟨a, e, q1⟩
  · subst e
    obtain ⟨t, rfl⟩ := r1
    cases ha : z.cps.all (· < 128)
    · exact wpAny_pyIter_wide ha (pi_one (tk := s1.toks) I1 _ (turn_str _ z t "str_iterator" (.inr rfl)) ⟨_, Heap.get?_push_size _ rfl, rfl, rfl⟩ q)
    · exact wpAny_pyIter_ascii ha (pi_one (tk := s1.toks) I1 _ (turn_str _ z t "str_ascii_iterator" (.inl rfl)) ⟨_, Heap.get?_push_size _ rfl, rfl, rfl⟩ q)
  · subst e
    cases r1
    rcases q1 with ⟨xs, hq, q⟩ | ⟨xs, hq, q⟩
    · obtain ⟨its, rv, p, hz⟩ := I1.list hq
      exact wpAny_pyIter_list p.isList (pi_one (tk := s1.toks) I1 _ (turn_list a _) ⟨_, Heap.get?_push_size _ rfl, rfl, rfl⟩ q)
    · obtain ⟨its, rv, p, hz⟩ := I1.tuple hq
      have p2 : s1.heap.IsTuple a its.toArray := p
      exact wpAny_pyIter_tuple p2 (pi_one (tk := s1.toks) I1 _ (turn_tuple a _) ⟨_, Heap.get?_push_size _ rfl, rfl, rfl⟩ q)
theorem pe_gc {X : Cx} {x : Str} {v : V} {pos : Pos} (hg : Gl X x) (h : ∃ u, X.mg x = some u ∧ RelV v u) (hd : (x == ("__debug__" : Str)) = false := by decide) : PE X (.Name x pos) (tC v) := by
  obtain ⟨u, hm, r⟩ := h
  exact pe_glob hg hm r hd
structure CalX (P : Program) (w : World) (K : PySem.W.Frag) (mg : Str → Option Value) (base : Heap) (CX : CXT) (k : Nat) (x : Str) (sp : Sp) : Prop where
  ex : ∃ (f : Addr) (fd : FuncData) (ps : List Str), FnOk P w K mg base CX k f fd ps sp ∧ mg x = some (.ref f) ∧ PySem.W.keepIn K (.ref f) = true ∧ Binds K fd ps []
structure MakX (P : Program) (w : World) (K : PySem.W.Frag) (mg : Str → Option Value) (base : Heap) (CX : CXT) (k : Nat) (x : Str) (C : Addr) (sp : Sp) : Prop where
  ex : ∃ (f : Addr) (fd : FuncData) (ps : List Str), Mk K C f ∧ FnOk P w K mg base CX k f fd ps sp ∧ mg x = some (.ref C) ∧ Binds K fd ps []
section
variable {X : Cx} {CX : CXT} {k j : Nat} {C : Addr} {x m : Str} {sp : Sp} {p pos apos : Pos} {e o : Expr} {es : List Expr} {ta : TE} {t : TA} {E : XK}
theorem pe_cx (c : CalX X.prog X.w X.K X.mg X.base CX k x sp) (hr : Room j X.A) (hk : k ≤ j) (hx : Passes CX X E) (hg : Gl X x) (ha : PA X (e :: es) t)
    (hdb : (x == ("__debug__" : Str)) = false := by decide) (he : starEach (e :: es) X.env = (false, eval e X.env) :: starEach es X.env := by rfl) (hpl : (backTo pos (starEach es X.env)).any (·.1) = false := by rfl) :
    PE X (.Call (.Name x p) (e :: es) [] pos) (tCall sp [] E t) := by
  obtain ⟨f, fd, ps, F, hm, kp, b⟩ := c.ex
  exact pe_call F (hr.mono hk) hg hm kp b .nil hx ha hdb he hpl
theorem pe_cx0 (c : CalX X.prog X.w X.K X.mg X.base CX k x sp) (hr : Room j X.A) (hk : k ≤ j) (hx : Passes CX X E) (hg : Gl X x)
    (hdb : (x == ("__debug__" : Str)) = false := by decide) :
    PE X (.Call (.Name x p) [] [] pos) (tCall sp [] E tNil) := by
  obtain ⟨f, fd, ps, F, hm, kp, b⟩ := c.ex
  exact pe_call0 F (hr.mono hk) hg hm kp b .nil hx hdb
theorem pe_csx (c : CalX X.prog X.w X.K X.mg X.base CX k x sp) (hr : Room j X.A) (hk : k ≤ j) {E' : L2.St → XK} (hx : ∀ σ, PassesAt CX X σ (E' σ)) (hg : Gl X x) (ha : PA X (e :: es) t)
    (hdb : (x == ("__debug__" : Str)) = false := by decide) (he : starEach (e :: es) X.env = (false, eval e X.env) :: starEach es X.env := by rfl) (hpl : (backTo pos (starEach es X.env)).any (·.1) = false := by rfl) :
    PE X (.Call (.Name x p) (e :: es) [] pos) (tCallS sp E' t) := by
  obtain ⟨f, fd, ps, F, hm, kp, b⟩ := c.ex
  exact pe_callS F (hr.mono hk) hg hm kp b hx ha hdb he hpl
theorem pe_mx (c : MakX X.prog X.w X.K X.mg X.base CX k x C sp) (hr : Room j X.A) (hk : k + 1 ≤ j) (hx : Passes CX X E) (hg : Gl X x) (ha : PA X (e :: es) t)
    (hdb : (x == ("__debug__" : Str)) = false := by decide) (he : starEach (e :: es) X.env = (false, eval e X.env) :: starEach es X.env := by rfl) (hpl : (backTo pos (starEach es X.env)).any (·.1) = false := by rfl) :
    PE X (.Call (.Name x p) (e :: es) [] pos) (tMake C sp [] E t) := by
  obtain ⟨f, fd, ps, M, F, hm, b⟩ := c.ex
  exact pe_make M F (hr.mono hk) hg hm b .nil hx ha hdb he hpl
/-- an own exception class that is raised by its name -/
structure ExcX (P : Program) (w : World) (K : PySem.W.Frag) (mg : Str → Option Value) (base : Heap) (k : Nat) (x : Str) (C : Addr) (sp : Sp) : Prop where
  ex : ∃ (f : Addr) (fd : FuncData) (ps : List Str), OexC K C ∧ PySem.W.findIn K (.ref C) "__init__" = some (some (.ref f)) ∧ PySem.W.typeIn K (.ref f) = some (.type "function") ∧ FnOk P w K mg base CX0 k f fd ps sp ∧ Binds K fd ps [] ∧ mg x = some (.ref C)
theorem pmk_x {ta' : TA} (c : ExcX X.prog X.w X.K X.mg X.base k x C sp) (hr : Room j X.A) (hk : k + 1 ≤ j) (hg : Gl X x) (ha : PA X (e :: es) ta')
    (hdb : (x == ("__debug__" : Str)) = false := by decide) (he : starEach (e :: es) X.env = (false, eval e X.env) :: starEach es X.env := by rfl) (hpl : (backTo pos (starEach es X.env)).any (·.1) = false := by rfl) :
    PMk X (.Call (.Name x p) (e :: es) [] pos) (tMkO C sp [] ta') := by
  obtain ⟨f, fd, ps, T, iC, tI, F, b, hm⟩ := c.ex
  exact pmk_oex T iC tI F (hr.mono hk) b .nil pass0 hg hm ha hdb he hpl
end
end VL
end

section
/-! VX: a def that returns a new list whose last item is a list of its own; a caller that appends to that item. -/
namespace VL
open PySem PySem.Spec PyProof.Rows L2
section
variable {K : KW} {W0 : Wd} {E : XK} {b : Bool}
abbrev GM := Env → Option (List D × List D)
def gA2 (g1 g2 : GE) : GA := fun c => match g1 c with
  | some x => match g2 c with
    | some y => some [x, y]
    | none => none
  | none => none
theorem gA2_some {g1 g2 : GE} {c : Env} {ds : List D} (h : gA2 g1 g2 c = some ds) : ∃ x y, g1 c = some x ∧ g2 c = some y ∧ ds = [x, y] := by
  unfold gA2 at h
  split at h
  · rename_i x hx
    split at h
    · rename_i y hy
      cases h
      exact ⟨x, y, hx, hy, rfl⟩
    · cases h
  · cases h
def VM (K : KW) (W0 : Wd) (ts : TS) (g : GM) : Prop :=
  ∀ (W : Wd) (σ : L2.St) (c : Env) (D : Ends) (ds es : List VL.D), WOk W → Up W0 W → SD K W0 W σ c → g c = some (ds, es) →
    (∀ W' p l vs us, WOk W' → Up W0 W' → Same W.F W'.F → W'.H p = some (.lst (vs ++ [.ref l])) → W'.H l = some (.lst us) → W0.H p = none → W0.H l = none → p ≠ l → W'.F p = none → W'.F l = none → DenL K W'.F vs ds → DenL K W'.F us es → D.rt (.ref p) W'.H) → ts D σ W.H
def gMSeq (g1 : GS) (g2 : GM) : GM := fun c => match g1 c with
  | some (.nx c') => g2 c'
  | _ => none
theorem vm_seq {t1 t2 : TS} {g1 : GS} {g2 : GM} (h1 : VS K W0 E t1 g1) (h2 : VM K W0 t2 g2) : VM K W0 (tSeq t1 t2) (gMSeq g1 g2) := by
  intro W σ c D ds es k u s e q
  unfold gMSeq at e
  split at e
  · rename_i c' hc'
    refine h1 W σ c { D with nx := t2 D } k u s ?_
    rw [hc']
    exact fun W1 σ1 k1 u1 f1 s1 => h2 W1 σ1 c' D ds es k1 u1 s1 e fun W' p l vs us a1 a2 a3 => q W' p l vs us a1 a2 (f1.trans a3)
  · cases e
/-- return [.., x], x a list of one's own -/
def gMRet (i : Nat) (g : GA) : GM := fun c => match c[i]? with
  | some (some (.own es)) => match g c with
    | some ds => if ds.length < sizeLine then some (ds, es) else none
    | none => none
  | _ => none
theorem vm_ret {i : Nat} {t1 t2 : TE} {g1 g2 : GE} (h1 : VT K W0 true t1 g1) (h2 : VT K W0 true t2 g2) :
    VM K W0 (tRet (tLst (tCons t1 (tCons t2 (tCons (tVar i) tNil))))) (gMRet i (gA2 g1 g2)) := by
  intro W σ c D ds es k u s e q
  unfold gMRet at e
  split at e
  · rename_i es' hc
    split at e
    · rename_i ds' hds
      split at e
      · rename_i hz
        cases e
        obtain ⟨x, y, ex, ey, rfl⟩ := gA2_some hds
        refine h1 W σ c x _ k u s ex fun Wa va ka ga da => ?_
        refine h2 Wa σ c y _ ka (u.gr ga) (s.gr ga) ey fun Wb vb kb gb db => ?_
        have s2 := (s.gr ga).gr gb
        have u2 := (u.gr ga).gr gb
        obtain ⟨z, hx, l, us, rfl, a1, a2, a3, a4, a5⟩ := s2.at hc
        refine ⟨_, hx, by show 3 ≤ sizeLine; decide, fun p hp => ?_⟩
        have npl : p ≠ l := fun z => by rw [z, a1] at hp; cases hp
        have nw : W0.H p = none := u2.h.free hp
        refine q ⟨upd Wb.H p (.lst ([va, vb] ++ [.ref l])), Wb.F, Wb.F⟩ p l [va, vb] us ⟨Same.refl _, kb.fh.trans (same_upd hp), fun _ _ e _ => e⟩ ⟨u2.h.trans (same_upd hp), u2.f, u2.fo⟩ (ga.f.trans gb.f) upd_same ((upd_ne (Ne.symm npl)).trans a1) nw a4 npl (kb.nF hp) a3 (.cons (da.up gb.f) (.cons db .nil)) a5
      · cases e
    · cases e
  · cases e
/-- what such a def promises -/
def spM (K : KW) (m : List D → Option (List D × List D)) : Sp := fun vs H Q _ => ∃ (F : Hp) (ds as es : List D), Same F H ∧ DenL K F vs ds ∧ m ds = some (as, es) ∧
  ∀ H' F' p l xs us, Same H H' → Same F F' → Same F' H' → (∀ a o, H a = some o → F' a = F a) → H p = none → H l = none → p ≠ l → H' p = some (.lst (xs ++ [.ref l])) → H' l = some (.lst us) → F' p = none → F' l = none → DenL K F' xs as → DenL K F' us es → Q (.ref p) H'
def mmOf (n nn : Nat) (g : GM) : List D → Option (List D × List D) := fun ds => if ds.length = n then g (envOf nn ds) else none
theorem mmOf_len {n nn : Nat} {g : GM} {ds : List D} {r : List D × List D} (h : mmOf n nn g ds = some r) : ds.length = n ∧ g (envOf nn ds) = some r := by
  unfold mmOf at h
  split at h
  · exact ⟨by assumption, h⟩
  · cases h
theorem spM_len {m : List D → Option (List D × List D)} {n : Nat} (hm : ∀ ds r, m ds = some r → ds.length = n) : ∀ vs H Q E, spM K m vs H Q E → vs.length = n := by
  rintro vs H Q E' ⟨F, ds, as, es, hF, hd, e, _⟩
  rw [hd.length]
  exact hm ds _ e
theorem run_defM {N : List Str} {n nn : Nat} {ts : TS} {g : GM} {vs : List V} {H : Hp} {Q : VK} (hN : N.length = nn) (hv : ∀ W0, VM K W0 ts g) (h : spM K (mmOf n nn g) vs H Q E) : ts { nx := fun _ H' => Q .non H', rt := Q } (L2.start N vs) H := by
  obtain ⟨F, ds, as, es, hF, hd, e, q⟩ := h
  obtain ⟨hl, e⟩ := mmOf_len e
  subst hN
  refine hv ⟨H, F, F⟩ ⟨H, F, F⟩ (L2.start N vs) (envOf N.length ds) _ as es ⟨Same.refl _, hF, fun _ _ e _ => e⟩ ⟨Same.refl _, Same.refl _, fun _ _ _ => rfl⟩ (sd_start hd) e ?_
  intro W p l xs us k u f a1 a2 a3 a4 a5 a6 a7 a8 a9
  exact q W.H W.F p l xs us u.h f k.fh u.fo a3 a4 a5 a1 a2 a6 a7 a8 a9
/-! the caller -/
abbrev GX := List D → List D → GS
def VX (K : KW) (W0 : Wd) (E : XK) (i : Nat) (ts : TS) (g : GX) : Prop :=
  ∀ (W : Wd) (σ : L2.St) (c : Env) (D : Ends) (ds es : List VL.D) (p l : Addr) (vs us : List V), WOk W → Up W0 W → SD K W0 W σ c → σ[i]? = some (some (.ref p)) → W.H p = some (.lst (vs ++ [.ref l])) → W.H l = some (.lst us) →
    W.G p = none → W.G l = none → W0.H p = none → W0.H l = none → p ≠ l → DenL K W.F vs ds → DenL K W.F us es → Post K E W0 W.F D (g ds es c) → ts D σ W.H
def gMx (i : Nat) (m : List D → Option (List D × List D)) (ga : GA) (g : GX) : GS := fun c => match ga c with
  | some ds => match m ds with
    | some (as, es) => if i < c.length then g as es (c.set i none) else none
    | none => none
  | none => none
theorem vs_mx {i : Nat} {m : List D → Option (List D × List D)} {ts : TA} {ga : GA} {rest : TS} {g : GX} {E' : XK} (h : VArg K W0 true ts ga) (hx : VX K W0 E i rest g) :
    VS K W0 E (tSeq (tAsg (tCall (spM K m) [] E' ts) (gName i)) rest) (gMx i m ga g) := by
  intro W σ c D k u s q
  unfold gMx at q
  cases e : ga c with
  | none => rw [e] at q; exact q.elim
  | some ds =>
    simp only [e] at q
    refine h W σ c ds _ k u s e fun W1 vs k1 g1 d1 => ?_
    rw [List.append_nil]
    cases hm : m ds with
    | none => simp only [hm] at q; exact q.elim
    | some r =>
      obtain ⟨as, es⟩ := r
      simp only [hm] at q
      by_cases hi : i < c.length
      · rw [if_pos hi] at q
        refine ⟨W1.F, ds, as, es, k1.fh, d1, hm, fun H' F' p l xs us a1 a2 a3 a4 a5 a6 a7 a8 a9 b1 b2 b3 b4 => ?_⟩
        obtain ⟨k2, g2, f2⟩ := aft_ok (b := true) k1 a1 a2 a3 a4
        have Gp : ∀ a, W1.H a = none → F' a = none → (W1.aft true H' F').G a = none := fun a z y => by
          show (match W1.H a with | some _ => W1.G a | none => F' a) = none
          rw [z]; exact y
        refine hx (W1.aft true H' F') (σ.set i (some (.ref p))) (c.set i none) D as es p l xs us k2 ((u.gr g1).gr g2) (sd_set ((s.gr g1).gr g2) i _ none trivial fun l h => (noHold_none h).elim)
          (List.getElem?_set_self (by rw [s.len]; exact hi)) a8 a9 (Gp p a5 b1) (Gp l a6 b2) ((u.gr g1).h.free a5) ((u.gr g1).h.free a6) a7 (b3.up f2) (b4.up f2) (q.mono (g1.f.trans g2.f))
      · rw [if_neg hi] at q; exact q.elim
/-- a statement between: name j = a settled value -/
def gXAsg (i j : Nat) (ga : GE) (g : GX) : GX := fun ds es c => match ga c with
  | some d => if i = j then none else g ds es (c.set j (some (.fz d)))
  | none => none
theorem vx_asg {i j : Nat} {te : TE} {ga : GE} {rest : TS} {g : GX} (h : VT K W0 true te ga) (hx : VX K W0 E i rest g) : VX K W0 E i (tSeq (tAsg te (gName j)) rest) (gXAsg i j ga g) := by
  intro W σ c D ds es p l vs us k u s hσ a1 a2 a3 a4 a5 a6 a7 a8 a9 q
  unfold gXAsg at q
  cases e : ga c with
  | none => rw [e] at q; exact q.elim
  | some d =>
    simp only [e] at q
    by_cases hij : i = j
    · rw [if_pos hij] at q; exact q.elim
    · rw [if_neg hij] at q
      refine h W σ c d _ k u s e fun W1 v k1 g1 d1 => ?_
      exact hx W1 _ _ D ds es p l vs us k1 (u.gr g1) (sd_fz (s.gr g1) j d1) ((List.getElem?_set_ne (Ne.symm hij)).trans hσ) (g1.h _ _ a1) (g1.h _ _ a2) ((g1.go _ _ a1).trans a3) ((g1.go _ _ a2).trans a4) a5 a6 a7 (a8.up g1.f) (a9.up g1.f) (q.mono g1.f)
/-- .. and all is settled -/
def gXDone (i : Nat) (g : GS) : GX := fun ds es c => g (c.set i (some (.fz (.lst (ds ++ [.lst es])))))
def Wd.mx (W : Wd) (p l : Addr) (o u : HO) : Wd := ⟨W.H, upd (upd W.G p o) l u, upd (upd W.F p o) l u⟩
theorem mx_ok {W : Wd} {σ : L2.St} {c : Env} {i : Nat} {p l : Addr} {vs us : List V} {ds es : List D} (k : WOk W) (u : Up W0 W) (s : SD K W0 W σ c) (hσ : σ[i]? = some (some (.ref p))) (a1 : W.H p = some (.lst (vs ++ [.ref l]))) (a2 : W.H l = some (.lst us)) (a3 : W.G p = none) (a4 : W.G l = none) (a5 : W0.H p = none) (a6 : W0.H l = none) (a7 : p ≠ l) (a8 : DenL K W.F vs ds) (a9 : DenL K W.F us es) :
    WOk (W.mx p l (.lst (vs ++ [.ref l])) (.lst us)) ∧ Up W0 (W.mx p l (.lst (vs ++ [.ref l])) (.lst us)) ∧ Same W.F (W.mx p l (.lst (vs ++ [.ref l])) (.lst us)).F ∧ SD K W0 (W.mx p l (.lst (vs ++ [.ref l])) (.lst us)) σ (c.set i (some (.fz (.lst (ds ++ [.lst es]))))) := by
  have Fp : W.F p = none := k.fg.free a3
  have Fl : W.F l = none := k.fg.free a4
  have Fl2 : upd W.F p (.lst (vs ++ [.ref l])) l = none := (upd_ne (Ne.symm a7)).trans Fl
  have ff : Same W.F (upd (upd W.F p (.lst (vs ++ [.ref l]))) l (.lst us)) := (same_upd Fp).trans (same_upd Fl2)
  have Gne : ∀ a o, W.G a = some o → a ≠ p ∧ a ≠ l := fun a o z => ⟨ne_of_none z a3, ne_of_none z a4⟩
  have Hne : ∀ a o, W0.H a = some o → a ≠ p ∧ a ≠ l := fun a o z => ⟨ne_of_none z a5, ne_of_none z a6⟩
  have sH : ∀ a, a ≠ p → a ≠ l → ∀ (X : Hp), upd (upd X p (.lst (vs ++ [.ref l]))) l (.lst us) a = X a := fun a n1 n2 X => (upd_ne n2).trans (upd_ne n1)
  refine ⟨⟨same_upd2 (same_upd2 k.fg), fun a o z => ?_, fun a xs z ht => by
    have z' : upd (upd W.G p (.lst (vs ++ [.ref l]))) l (.lst us) a = some xs := z
    by_cases hl : a = l
    · subst hl; rw [upd_same] at z'; cases z'; cases ht
    · rw [upd_ne hl] at z'
      by_cases hp : a = p
      · subst hp; rw [upd_same] at z'; cases z'; cases ht
      · rw [upd_ne hp] at z'
        exact (sH a hp hl W.F).trans (k.gt a xs z' ht)⟩, ⟨u.h, u.f.trans ff, fun a o z => ?_⟩, ff, ?_⟩
  · have z' : upd (upd W.G p (.lst (vs ++ [.ref l]))) l (.lst us) a = some o := z
    by_cases hl : a = l
    · subst hl; rw [upd_same] at z'; cases z'; exact a2
    · rw [upd_ne hl] at z'
      by_cases hp : a = p
      · subst hp; rw [upd_same] at z'; cases z'; exact a1
      · rw [upd_ne hp] at z'; exact k.gh a o z'
  · obtain ⟨n1, n2⟩ := Hne a o z
    exact (sH a n1 n2 W.F).trans (u.fo a o z)
  · have s1 : SD K W0 (W.mx p l (.lst (vs ++ [.ref l])) (.lst us)) σ c := by
      have mv : ∀ (j : Nat) b0 t v as, σ[j]? = some (some v) → c[j]? = some (some (.tre b0 t)) → TOk K W0 W v t as → TOk K W0 (W.mx p l (.lst (vs ++ [.ref l])) (.lst us)) v t as := by
        intro j b0 t v as _ _ h3
        refine TOk.move (W := W) (W' := W.mx p l (.lst (vs ++ [V.ref l])) (.lst us)) (W0 := W0) (W0' := W0) (show Same W.F (W.mx p l (.lst (vs ++ [V.ref l])) (.lst us)).F from ff) (fun _ e => e) t v as (fun l2 hl => ?_) h3
        obtain ⟨⟨us2, e0, e⟩, _⟩ := TOk.there t v as h3 l2 hl
        obtain ⟨n1, n2⟩ : l2 ≠ p ∧ l2 ≠ l := by
          rcases e with ⟨e, _⟩ | ⟨_, _, _, _, e⟩
          · exact Gne _ _ e
          · subst e; exact ⟨fun z => (by rw [z, a1] at e0; cases e0), fun z => (by rw [z, a2] at e0; cases e0)⟩
        exact ⟨rfl, sH _ n1 n2 W.G, sH _ n1 n2 W.F⟩
      refine ⟨s.len, fun j x y h1 h2 => ?_, s.one_move mv⟩
      have okc := s.ok j x y h1 h2
      cases y with
      | none => trivial
      | some cl =>
        cases cl with
        | fz d => obtain ⟨v, e1, e2⟩ := okc; exact ⟨v, e1, e2.up ff⟩
        | own es' =>
          obtain ⟨l2, us2, e1, e2, e3, e4, e5, e6⟩ := okc
          obtain ⟨n1, n2⟩ := Gne _ _ e3
          exact ⟨l2, us2, e1, e2, (sH _ n1 n2 W.G).trans e3, (sH _ n1 n2 W.F).trans e4, e5, e6.up ff⟩
        | exc C ns es' =>
          obtain ⟨fs, e1, e2, e3, e4⟩ := okc
          exact ⟨fs, e1, e2, e3, e4.up ff⟩
        | slf C ns es' =>
          obtain ⟨fs, e1, e2, e3, e4, e5, e6, e7⟩ := okc
          have n1 : W0.sa ≠ p := ne_of e2 a1 (by intro z; cases z)
          have n2 : W0.sa ≠ l := ne_of e2 a2 (by intro z; cases z)
          exact ⟨fs, e1, e2, (sH _ n1 n2 W.G).trans e3, (sH _ n1 n2 W.F).trans e4, e5, e6, e7.up ff⟩
        | tre b0 t => obtain ⟨v, as, a1, a2, a3⟩ := okc; subst a1; exact ⟨v, as, rfl, mv j _ t v as h1 h2 a2, a3⟩
    have hi : i < σ.length := (List.getElem?_eq_some_iff.mp hσ).1
    have eσ : σ.set i (some (.ref p)) = σ := by
      apply List.ext_getElem?
      intro j
      by_cases hij : i = j
      · subst hij; rw [List.getElem?_set_self hi]; exact hσ.symm
      · rw [List.getElem?_set_ne hij]
    have den : Den K (upd (upd W.F p (.lst (vs ++ [.ref l]))) l (.lst us)) (.ref p) (.lst (ds ++ [.lst es])) :=
      .lst (by rw [upd_ne a7, upd_same]) ((a8.up ff).append (.cons (.lst upd_same (a9.up ff)) .nil))
    have := sd_fz (W := W.mx p l (.lst (vs ++ [.ref l])) (.lst us)) s1 i den
    rw [eσ] at this
    exact this
theorem vx_done {i : Nat} {rest : TS} {g : GS} (h : VS K W0 E rest g) : VX K W0 E i rest (gXDone i g) := by
  intro W σ c D ds es p l vs us k u s hσ a1 a2 a3 a4 a5 a6 a7 a8 a9 q
  obtain ⟨k2, u2, f2, s2⟩ := mx_ok k u s hσ a1 a2 a3 a4 a5 a6 a7 a8 a9
  exact h (W.mx p l (.lst (vs ++ [.ref l])) (.lst us)) σ _ D k2 u2 s2 (q.mono f2)
/-- an int is read, all looked at as settled, and forgotten again -/
theorem vx_int {W : Wd} {σ : L2.St} {c : Env} {i : Nat} {p l : Addr} {vs us : List V} {ds es : List D} {te : TE} {ga : GE} {n : Int} {Q : VK} (h : VT K W0 b te ga) (k : WOk W) (u : Up W0 W) (s : SD K W0 W σ c) (hσ : σ[i]? = some (some (.ref p))) (a1 : W.H p = some (.lst (vs ++ [.ref l]))) (a2 : W.H l = some (.lst us)) (a3 : W.G p = none) (a4 : W.G l = none) (a5 : W0.H p = none) (a6 : W0.H l = none) (a7 : p ≠ l) (a8 : DenL K W.F vs ds) (a9 : DenL K W.F us es)
    (e : ga (c.set i (some (.fz (.lst (ds ++ [.lst es]))))) = some (.int n)) (q : ∀ W', WOk W' → Gr W W' → Q (.int n) W'.H) : te σ W.H Q := by
  obtain ⟨k2, u2, f2, s2⟩ := mx_ok k u s hσ a1 a2 a3 a4 a5 a6 a7 a8 a9
  refine h (W.mx p l (.lst (vs ++ [.ref l])) (.lst us)) σ _ _ _ k2 u2 s2 e fun W' v k' g' hd => ?_
  cases hd
  let cut : Hp → Hp := fun X a => if a = p ∨ a = l then none else X a
  have cutS : ∀ X Y : Hp, Same X Y → Same (cut X) (cut Y) := fun X Y z a o y => by
    have y' : (if a = p ∨ a = l then none else X a) = some o := y
    show (if a = p ∨ a = l then none else Y a) = some o
    split at y'
    · cases y'
    · rename_i hn; rw [if_neg hn]; exact z a o y'
  have cutL : ∀ X : Hp, Same (cut X) X := fun X a o y => by
    have y' : (if a = p ∨ a = l then none else X a) = some o := y
    split at y'
    · cases y'
    · exact y'
  have inC : ∀ (X : Hp) a, a ≠ p → a ≠ l → cut X a = X a := fun X a n1 n2 => if_neg (fun z => z.elim n1 n2)
  have Fp : W.F p = none := k.fg.free a3
  have Fl : W.F l = none := k.fg.free a4
  have sH : ∀ a, a ≠ p → a ≠ l → ∀ (X : Hp), upd (upd X p (.lst (vs ++ [.ref l]))) l (.lst us) a = X a := fun a n1 n2 X => (upd_ne n2).trans (upd_ne n1)
  refine q ⟨W'.H, cut W'.G, cut W'.F⟩ ⟨cutS _ _ k'.fg, (cutL _).trans k'.gh, fun a xs z ht => by
      have z' : (if a = p ∨ a = l then none else W'.G a) = some xs := z
      show (if a = p ∨ a = l then none else W'.F a) = _
      split at z'
      · cases z'
      · rename_i hn; rw [if_neg hn]; exact k'.gt a xs z' ht⟩ ⟨g'.h, fun a o z => ?_, fun a o z => ?_, fun a o z => ?_, fun a o z => ?_⟩
  · have n1 := ne_of_none z a3; have n2 := ne_of_none z a4
    show cut W'.G a = some o
    rw [inC _ _ n1 n2]; exact g'.g a o ((sH a n1 n2 W.G).trans z)
  · have n1 := ne_of_none z Fp; have n2 := ne_of_none z Fl
    show cut W'.F a = some o
    rw [inC _ _ n1 n2]; exact g'.f a o ((sH a n1 n2 W.F).trans z)
  · show cut W'.G a = W.G a
    by_cases n1 : a = p
    · rw [n1, a3]; exact if_pos (.inl rfl)
    by_cases n2 : a = l
    · rw [n2, a4]; exact if_pos (.inr rfl)
    rw [inC _ _ n1 n2]; exact (g'.go a o z).trans (sH a n1 n2 W.G)
  · show cut W'.F a = W.F a
    by_cases n1 : a = p
    · rw [n1, Fp]; exact if_pos (.inl rfl)
    by_cases n2 : a = l
    · rw [n2, Fl]; exact if_pos (.inr rfl)
    rw [inC _ _ n1 n2]; exact (g'.fo a o z).trans (sH a n1 n2 W.F)
/-- if t: x[k].append(x[k][e]), k tells the last item -/
def gXApp (i : Nat) (k : Int) (tst : GB) (ge : GE) (g : GX) : GX := fun ds es c => match tst c with
  | some false => g ds es c
  | some true => if k = ds.length then match ge (c.set i (some (.fz (.lst (ds ++ [.lst es]))))) with
    | some (.int n) => match atI es n with
      | some d => if es.length < sizeLine then g ds (es ++ [d]) c else none
      | none => none
    | _ => none
    else none
  | none => none
theorem atI_last {α : Type} {xs : List α} {x : α} {k : Int} (h : k = xs.length) : atI (xs ++ [x]) k = some x := by
  subst h
  unfold atI ixN
  have h1 : ¬ ((xs.length : Int) < 0) := by omega
  have h2 : (xs.length : Int) < ((xs ++ [x]).length : Nat) := by simp; omega
  simp
  rw [if_pos (by omega)]
  simp
theorem vx_app {i : Nat} {kk : Int} {tt : TT} {tst : GB} {te : TE} {ge : GE} {rest : TS} {g : GX} (ht : VB K W0 tt tst) (he : VT K W0 b te ge) (hx : VX K W0 E i rest g) :
    VX K W0 E i (tSeq (tIfS tt (tDrop (tBM K "list" rAppend (tOp (rIx K) (tVar i) (tC (.int kk))) (tCons (tOp (rIx K) (tOp (rIx K) (tVar i) (tC (.int kk))) te) tNil))) tNext) rest) (gXApp i kk tst ge g) := by
  intro W σ c D ds es p l vs us k u s hσ a1 a2 a3 a4 a5 a6 a7 a8 a9 q
  unfold gXApp at q
  cases e : tst c with
  | none => rw [e] at q; exact q.elim
  | some t =>
    refine ht W σ c t _ k u s e fun W1 k1 g1 => ?_
    have c1 : W1.H p = some (.lst (vs ++ [.ref l])) := g1.h _ _ a1
    have c2 : W1.H l = some (.lst us) := g1.h _ _ a2
    have c3 : W1.G p = none := (g1.go _ _ a1).trans a3
    have c4 : W1.G l = none := (g1.go _ _ a2).trans a4
    have c8 := a8.up g1.f
    have c9 := a9.up g1.f
    cases t with
    | false =>
      rw [if_neg Bool.false_ne_true]
      simp only [e] at q
      exact hx W1 σ c D ds es p l vs us k1 (u.gr g1) (s.gr g1) hσ c1 c2 c3 c4 a5 a6 a7 c8 c9 (q.mono g1.f)
    | true =>
      rw [if_pos rfl]
      simp only [e] at q
      by_cases hk : kk = ds.length
      · rw [if_pos hk] at q
        have hk' : kk = vs.length := by rw [a8.length]; exact hk
        split at q
        · rename_i n hn
          cases e3 : atI es n with
          | none => simp only [e3] at q; exact q.elim
          | some d =>
            simp only [e3] at q
            by_cases hz : es.length < sizeLine
            · rw [if_pos hz] at q
              refine ⟨_, hσ, .inl ⟨p, _, kk, _, rfl, rfl, SqL.of c1, atI_last hk', .inl ⟨rfl, _, SqL.of c2⟩, _, hσ, .inl ⟨p, _, kk, _, rfl, rfl, SqL.of c1, atI_last hk', ?_⟩⟩⟩
              refine vx_int he k1 (u.gr g1) (s.gr g1) hσ c1 c2 c3 c4 a5 a6 a7 c8 c9 hn fun W2 k2 g2 => ?_
              have c92 := c9.up g2.f
              obtain ⟨v, hv, dv⟩ := denL_atI c92 e3
              refine .inl ⟨l, us, n, v, rfl, rfl, SqL.of (g2.h _ _ c2), hv, ?_⟩
              refine ⟨l, us, v, rfl, rfl, g2.h _ _ c2, by rw [c92.length]; exact hz, ?_⟩
              have G2l : W2.G l = none := (g2.go _ _ c2).trans c4
              have G2p : W2.G p = none := (g2.go _ _ c1).trans c3
              have neG : ∀ a o, W2.G a = some o → a ≠ l := fun a o z => ne_of_none z G2l
              have u2 := (u.gr g1).gr g2
              have s2 := (s.gr g1).gr g2
              refine hx ⟨upd W2.H l (.lst (us ++ [v])), W2.G, W2.F⟩ σ c D ds (es ++ [d]) p l vs (us ++ [v]) ⟨k2.fg, fun a o z => (upd_ne (neG a o z)).trans (k2.gh a o z), k2.gt⟩ ⟨fun a o z => (upd_ne (ne_of_none z a6)).trans (u2.h a o z), u2.f, u2.fo⟩ ?_ hσ ((upd_ne a7).trans (g2.h _ _ c1)) upd_same G2p G2l a5 a6 a7 (c8.up g2.f) (c92.append (.cons dv .nil)) (q.mono (g1.f.trans g2.f))
              have mv : ∀ (j : Nat) b0 t v' as, σ[j]? = some (some v') → c[j]? = some (some (.tre b0 t)) → TOk K W0 W2 v' t as → TOk K W0 ⟨upd W2.H l (.lst (us ++ [v])), W2.G, W2.F⟩ v' t as := by
                intro j b0 t v' as _ _ h3
                refine TOk.move (W := W2) (W' := ⟨upd W2.H l (.lst (us ++ [v])), W2.G, W2.F⟩) (W0 := W0) (W0' := W0) (Same.refl _) (fun _ e => e) t v' as (fun l2 hl => ⟨upd_ne ?_, rfl, rfl⟩) h3
                obtain ⟨⟨us2, e0, e⟩, _⟩ := TOk.there t v' as h3 l2 hl
                rcases e with ⟨e, _⟩ | ⟨_, _, _, _, e⟩
                · exact neG _ _ e
                · subst e; intro z; rw [z, g2.h _ _ c2] at e0; cases e0
              refine ⟨s2.len, fun j x y h1 h2 => ?_, s2.one_move mv⟩
              have okc := s2.ok j x y h1 h2
              cases y with
              | none => trivial
              | some cl =>
                cases cl with
                | fz d => exact okc
                | own es' =>
                  obtain ⟨l2, us2, e1, e2, e3, e4, e5, e6⟩ := okc
                  exact ⟨l2, us2, e1, (upd_ne (neG _ _ e3)).trans e2, e3, e4, e5, e6⟩
                | tre b0 t => obtain ⟨v', as, b1, b2, b3⟩ := okc; subst b1; exact ⟨v', as, rfl, mv j _ t v' as h1 h2 b2, b3⟩
                | exc C ns es' =>
                  obtain ⟨fs, e1, e2, e3, e4⟩ := okc
                  exact ⟨fs, e1, (upd_ne (ne_of e2 (g2.h _ _ c2) (by intro z; cases z))).trans e2, e3, e4⟩
                | slf C ns es' =>
                  obtain ⟨fs, e1, e2, e3, e4, e5, e6, e7⟩ := okc
                  exact ⟨fs, e1, (upd_ne (ne_of e2 (g2.h _ _ c2) (by intro z; cases z))).trans e2, e3, e4, e5, e6, e7⟩
            · rw [if_neg hz] at q; exact q.elim
        · exact q.elim
      · rw [if_neg hk] at q; exact q.elim
/-- a + b of lists: a new list -/
def gCat (ga gb : GE) : GA := fun c => match ga c with
  | some (.lst a) => match gb c with
    | some (.lst b) => if a.length + b.length ≤ sizeLine then some (a ++ b) else none
    | _ => none
  | _ => none
theorem vn_cat {ta tb : TE} {ga gb : GE} (h1 : VT K W0 true ta ga) (h2 : VT K W0 true tb gb) : VN K W0 (tOp (rAddU K) ta tb) (gCat ga gb) := by
  intro W σ c ds Q k u s e q
  unfold gCat at e
  split at e
  · rename_i a ha
    split at e
    · rename_i b hb
      split at e
      · rename_i hz
        cases e
        refine h1 W σ c _ _ k u s ha fun W1 v1 k1 g1 d1 => ?_
        refine h2 W1 σ c _ _ k1 (u.gr g1) (s.gr g1) hb fun W2 v2 k2 g2 d2 => ?_
        cases d1 with
        | lst e1 e2 =>
          cases d2 with
          | lst e3 e4 =>
            refine .inr (.inr (.inl ⟨_, _, _, _, rfl, rfl, k2.fh _ _ (g2.f _ _ e1), k2.fh _ _ e3, by rw [e2.length, e4.length]; exact hz, fun p hp => ?_⟩))
            exact q W2 p _ k2 (g1.trans g2) hp ((e2.up g2.f).append e4)
      · cases e
    · cases e
  · cases e
theorem exm_same {K : PySem.W.Frag} {C : Addr} (e : PySem.W.subIn K (.ref C) (.type "BaseException") = some true) (i : PySem.W.isClsIn K C = true) (t : PySem.W.typeIn K (.ref C) = some (.type "type")) (s : PySem.W.subIn K (.ref C) (.ref C) = some true) : PySem.W.exmOne K (.ref C) (.ref C) = some true := by
  have i' : (PySem.W.clsIn K C).isSome = true := i
  unfold PySem.W.exmOne
  rw [e]
  refine (if_pos (by simp)).trans ?_
  unfold PySem.W.kitCls
  simp [i', t, s]
end
end VL
end

section
/-! VY: values that cannot change; str, join, count; raising calls inside expressions; try. -/
namespace VL
open PySem PySem.Spec PyProof.Rows L2
/-! ### what cannot change is settled -/
mutual
def D.imm : D → Bool
  | .non => true | .bl _ => true | .int _ => true | .str _ => true
  | .tup ds => D.immL ds
  | .lst _ => false | .scr _ => false
  | .ins _ _ ds => D.immL ds
  | .dct _ _ _ => false
def D.immL : List D → Bool
  | [] => true
  | d :: ds => D.imm d && D.immL ds
end
section
variable {K : KW} {W0 W : Wd} {E : XK} {b b' b1 b2 : Bool}
theorem sqT_imm (k : WOk W) {a : Addr} {xs : List V} (h : SqT K W.G a xs) : SqT K W.F a xs := by
  rcases h with (h | ⟨o, h⟩) | h
  · exact .inl (.inl (k.gt _ _ h rfl))
  · exact .inl (.inr ⟨o, k.gt _ _ h rfl⟩)
  · exact .inr h
mutual
theorem den_imm (k : WOk W) : ∀ (d : D) (v : V), D.imm d = true → Den K W.G v d → Den K W.F v d
  | .non, _, _, h => by cases h; exact .non
  | .bl b, _, _, h => by cases h; exact .bl b
  | .int i, _, _, h => by cases h; exact .int i
  | .str x, _, _, h => by cases h; exact .str x
  | .tup ds, _, e, h => by
    cases h with
    | tup h1 h2 => exact .tup (sqT_imm k h1) (denL_imm k ds _ (by simpa [D.imm] using e) h2)
  | .lst _, _, e, _ => by simp [D.imm] at e
  | .scr _, _, e, _ => by simp [D.imm] at e
  | .dct _ _ _, _, e, _ => by simp [D.imm] at e
  | .ins C ns ds, _, e, h => by
    cases h with
    | ins h1 h2 h3 => exact .ins (k.gt _ _ h1 rfl) h2 (denL_imm k ds _ (by simpa [D.imm] using e) h3)
theorem denL_imm (k : WOk W) : ∀ (ds : List D) (vs : List V), D.immL ds = true → DenL K W.G vs ds → DenL K W.F vs ds
  | [], _, _, h => by cases h; exact .nil
  | d :: ds, _, e, h => by
    simp only [D.immL, Bool.and_eq_true] at e
    cases h with
    | cons h1 h2 => exact .cons (den_imm k d _ e.1 h1) (denL_imm k ds _ e.2 h2)
end
def gImm (g : GE) : GE := fun c => match g c with
  | some d => if d.imm = true then some d else none
  | none => none
theorem vt_imm {te : TE} {g : GE} (h : VT K W0 b' te g) : VT K W0 b te (gImm g) := by
  intro W σ c d Q k u s e q
  unfold gImm at e
  split at e
  · rename_i x hx
    split at e
    · rename_i hi
      cases e
      refine h W σ c _ Q k u s hx fun W' v k' g' hd => q W' v k' g' ?_
      have hF : Den K W'.F v d := den_imm k' d v hi (hd.up (by cases b'; exact Same.refl _; exact k'.fg))
      exact hF.up (by cases b; exact k'.fg; exact Same.refl _)
    · cases e
  · cases e
/-! ### str(x), x an int or a text -/
def rStrU : List V → Hp → VK → Prop := fun xs H Q => (∃ i, xs = [.int i] ∧ i.natAbs.log2 < 1920 ∧ Q (.str (toString i)) H) ∨ ∃ a, xs = [.str a] ∧ Q (.str a) H
theorem call_strU {X : Cx} : CallR X (.type "str") rStrU := by
  intro pins s σ H xs us Q I r h
  rcases h with h | h
  · exact call_str_int pins s σ H xs us Q I r h
  · exact _root_.SkE.call_str_str pins s σ H xs us Q I r h
def fStr : List D → Option D
  | [.int i] => if i.natAbs.log2 < 1920 then some (.str (toString i)) else none
  | [.str a] => some (.str a)
  | _ => none
theorem rcs_str : RCS K rStrU fStr := by
  intro W xs ds z Q k hd hf q
  unfold fStr at hf
  split at hf
  · split at hf
    · rename_i hz
      cases hf
      cases hd with
      | cons h1 h2 => cases h1; cases h2; exact .inl ⟨_, rfl, hz, q _ fun H => .str _⟩
    · cases hf
  · cases hf
    cases hd with
    | cons h1 h2 => cases h1; cases h2; exact .inr ⟨_, rfl, q _ fun H => .str _⟩
  · cases hf
/-! ### a.join(x) -/
def rJoinU (K : PySem.W.Frag) : V → List V → Hp → VK → Prop := fun x xs H Q => ∃ a p, ∃ ys : List Str, x = .str a ∧ xs = [.ref p] ∧ (SqL K H p (ys.map V.str) ∨ SqT K H p (ys.map V.str)) ∧
  (ys.map (·.length)).sum + ys.length * a.length ≤ 16777216 ∧ Q (.str (Txt.join a ys)) H
theorem pe_joinU {K : PySem.W.Frag} {X : Cx} {o e : Expr} {to te : TE} {apos pos : Pos} (hK : X.K = K) (ho : PE X o to) (he : PE X e te) (hs : starEach [e] X.env = [(false, eval e X.env)] := by rfl) (hbase : attributeBase o "join" X.env (eval o X.env) = eval o X.env := by rfl) (hline : (apos.endLine == pos.line) = true := by rfl) :
    PE X (.Call (.Attribute o "join" apos) [e] [] pos) (tM1 (rJoinU K) to te) := by
  subst hK
  exact pe_join ho he hs hbase hline
def strsOf : List D → Option (List Str)
  | [] => some []
  | .str x :: ds => match strsOf ds with
    | some xs => some (x :: xs)
    | none => none
  | _ :: _ => none
theorem strsOf_map : ∀ {ds : List D} {xs : List Str}, strsOf ds = some xs → ds = xs.map D.str
  | [], xs, h => by cases h; rfl
  | d :: ds, xs, h => by
    unfold strsOf at h
    split at h
    · rename_i q; cases q
    · rename_i x es q
      cases q
      split at h
      · rename_i ys hy
        cases h
        rw [strsOf_map hy]; rfl
      · cases h
    · cases h
def dJoin : D → D → Option D
  | .str a, d => match d.items with
    | some ds => match strsOf ds with
      | some ys => if (ys.map (·.length)).sum + ys.length * a.length ≤ 16777216 then some (.str (Txt.join a ys)) else none
      | none => none
    | none => none
  | _, _ => none
theorem vt_join {to te : TE} {ga gb : GE} (h1 : VT K W0 b1 to ga) (h2 : VT K W0 b2 te gb) : VT K W0 b (tM1 (rJoinU K) to te) (g2 dJoin ga gb) := by
  intro W σ c d Q k u s e q
  obtain ⟨x, y, ex, ey, ef⟩ := g2_some e
  refine h1 W σ c x _ k u s ex fun W1 v1 k1 g1 d1 => ?_
  cases x with
  | str a =>
    cases d1
    refine ⟨⟨a, rfl⟩, h2 W1 σ c y _ k1 (u.gr g1) (s.gr g1) ey fun W2 v2 k2 g2 d2 => ?_⟩
    unfold dJoin at ef
    simp only at ef
    split at ef
    · rename_i ds hds
      split at ef
      · rename_i ys hys
        split at ef
        · rename_i hz
          cases ef
          obtain ⟨p, xs, rfl, hq, hdl⟩ := den_items (d2.up (k2.atH b2)) hds
          rw [strsOf_map hys] at hdl
          have := hdl.strs
          subst this
          exact ⟨a, p, ys, rfl, rfl, hq, hz, q W2 _ k2 (g1.trans g2) (.str _)⟩
        · cases ef
      · cases ef
    · cases ef
  | _ => cases ef
/-! ### x.count(e) of a list of flat values -/
def rCntU (K : PySem.W.Frag) : V → List V → Hp → VK → Prop := fun x xs H Q => ∃ (p : Addr) (ys : List V) (z : V), x = .ref p ∧ xs = [z] ∧ flatV z = true ∧ ys.all flatV = true ∧ SqL K H p ys ∧ Q (.int (ys.countP fun y => eqV y z : Nat)) H
def cntV (z : V) (u : Value) : Bool := match absV u with
  | some y => eqV y z
  | none => false
theorem cnt_rel {z y : V} {u : Value} (f : flatV y = true) (r : RelV y u) : cntV z u = eqV y z := by
  cases y with
  | non => cases r; rfl
  | bl b => cases r; rfl
  | int i => obtain ⟨t, rfl⟩ := r; rfl
  | str x => obtain ⟨t, rfl⟩ := r; rfl
  | _ => exact absurd (show false = true from f) Bool.false_ne_true
theorem cnt_all {z : V} : ∀ {us : List Value} {ys : List V}, ys.all flatV = true → Vals ys us → us.countP (cntV z) = ys.countP fun y => eqV y z
  | _, _, _, .nil => rfl
  | _, _, f, .cons r h => by
    rw [List.all_cons, Bool.and_eq_true] at f
    rw [List.countP_cons, List.countP_cons, cnt_all f.2 h, cnt_rel f.1 r]
theorem cnt_at {A : Around} {s : Shared} {z : V} {w : Value} (fz : flatV z = true) (rz : RelV z w) : ∀ {us : List Value} {ys : List V}, ys.all flatV = true → Vals ys us → ∀ u ∈ us, SeqAt.EqAt A s u w (cntV z u)
  | _, _, _, .nil => fun u hu => by cases hu
  | _, _, f, .cons r h => fun u hu => by
    rw [List.all_cons, Bool.and_eq_true] at f
    rcases List.mem_cons.mp hu with e | e
    · rw [e, cnt_rel f.1 r]
      exact eqAt_V r rz f.1 fz
    · exact cnt_at fz rz f.2 h u e
theorem mt_cntU {X : Cx} : MtR X "list.count" (rCntU X.K) := by
  intro pins s σ H x xs v us Q I rx rxs h
  obtain ⟨p, ys, z, rfl, rfl, fz, fy, hs, q⟩ := h
  cases rx
  obtain ⟨u, rfl, ru⟩ := rxs.one
  obtain ⟨its, rv, ⟨⟨cls, dd, data, sl⟩, n, ho, hc, hdn, hd⟩, hlen⟩ := I.list hs
  simp only at hc hd
  subst hc hd
  refine call_meets PySem.F.slot_list_count ⟨_, ho, rfl⟩ PySem.F.entry_list_count (PySem.F.args_list_count_2 _ _)
    (SeqAt.list_countAt p its.toArray n dd sl u (cntV z)) ⟨ho, fun y hy => cnt_at fz ru fy rv y (by simpa using hy), ?_⟩
  have ec : its.toArray.toList.countP (cntV z) = ys.countP fun y => eqV y z := cnt_all fy rv
  refine ⟨.int (ys.countP fun y => eqV y z : Nat), H, I.tok _, ⟨s.toks, ?_⟩, q⟩
  show Value.int ((its.toArray.toList.countP (cntV z) : Nat) : Int) s.toks = _
  rw [ec]
def dCnt (x z : D) : Option D := match x with
  | .lst ds => if z.scal = true ∧ ds.all D.scal = true then some (.int ((ds.map D.toV).countP fun y => eqV y z.toV : Nat)) else none
  | .scr ds => if z.scal = true ∧ ds.all D.scal = true then some (.int ((ds.map D.toV).countP fun y => eqV y z.toV : Nat)) else none
  | _ => none
theorem vt_cnt {to te : TE} {ga gb : GE} (h1 : VT K W0 b1 to ga) (h2 : VT K W0 b2 te gb) : VT K W0 b (tBM K "list" (rCntU K) to (tCons te tNil)) (g2 dCnt ga gb) := by
  intro W σ c d Q k u s e q
  obtain ⟨x, z, ex, ez, ef⟩ := g2_some e
  refine h1 W σ c x _ k u s ex fun W1 v1 k1 g1 d1 => ?_
  have fin : ∀ (a : Addr) (xs : List V) (ds : List D), v1 = .ref a → SqL K (W1.at b1) a xs → DenL K (W1.at b1) xs ds → (z.scal = true ∧ ds.all D.scal = true) → d = .int ((ds.map D.toV).countP fun y => eqV y z.toV : Nat) →
      (tyV K "list" v1 W1.H ∧ (tCons te tNil) σ W1.H fun xs H2 => rCntU K v1 xs H2 Q) := by
    rintro a xs ds rfl hq hd ⟨hz1, hz2⟩ rfl
    refine ⟨.inl ⟨rfl, xs, (k1.atH b1).seq hq⟩, h2 W1 σ c z _ k1 (u.gr g1) (s.gr g1) ez fun W2 v2 k2 g2 d2 => ?_⟩
    rw [den_scal d2 hz1]
    have hx := denL_scal hd hz2
    refine ⟨a, xs, z.toV, rfl, rfl, flat_toV z, by rw [hx]; exact flat_all ds, ((k1.atH b1).trans g2.h).seq hq, ?_⟩
    rw [hx]
    exact q W2 _ k2 (g1.trans g2) (.int _)
  unfold dCnt at ef
  split at ef
  · split at ef
    · rename_i hz
      cases ef
      cases d1 with
      | lst e1 e2 => exact fin _ _ _ rfl (SqL.of e1) e2 hz rfl
    · cases ef
  · split at ef
    · rename_i hz
      cases ef
      cases d1 with
      | scr e1 e2 => exact fin _ _ _ rfl e1 e2 hz rfl
    · cases ef
  · cases ef
/-! ### expressions that may raise -/
def XP (K : KW) (W : Wd) (E : XK) (b : Bool) (Q : VK) : Option Res → Prop
  | none => False
  | some (.val d) => ∀ W' v, WOk W' → Gr W W' → Den K (W'.at b) v d → Q v W'.H
  | some (.exn C ns ds) => ∀ W' dx fs, WOk W' → Gr W W' → W'.H dx = some (.xd fs) → W.H dx = none → fs.map (·.1) = ns → DenL K W'.F (fs.map (·.2)) ds → E (.ref C) (some dx) W'.H
abbrev GR := Env → Option Res
def VTX (K : KW) (W0 : Wd) (E : L2.St → XK) (b : Bool) (te : TE) (g : GR) : Prop :=
  ∀ (W : Wd) (σ : L2.St) (c : Env) (Q : VK), WOk W → Up W0 W → SD K W0 W σ c → XP K W (E σ) b Q (g c) → te σ W.H Q
def XPs (K : KW) (W : Wd) (E : XK) (b : Bool) (Q : List V → Hp → Prop) : Option (List D ⊕ (Addr × List Str × List D)) → Prop
  | none => False
  | some (.inl ds) => ∀ W' vs, WOk W' → Gr W W' → DenL K (W'.at b) vs ds → Q vs W'.H
  | some (.inr (C, ns, ds)) => ∀ W' dx fs, WOk W' → Gr W W' → W'.H dx = some (.xd fs) → W.H dx = none → fs.map (·.1) = ns → DenL K W'.F (fs.map (·.2)) ds → E (.ref C) (some dx) W'.H
abbrev GRs := Env → Option (List D ⊕ (Addr × List Str × List D))
def VAX (K : KW) (W0 : Wd) (E : L2.St → XK) (b : Bool) (ta : TA) (g : GRs) : Prop :=
  ∀ (W : Wd) (σ : L2.St) (c : Env) (Q : List V → Hp → Prop), WOk W → Up W0 W → SD K W0 W σ c → XPs K W (E σ) b Q (g c) → ta σ W.H Q
variable {Ex : L2.St → XK}
def gVal (g : GE) : GR := fun c => match g c with
  | some d => some (.val d)
  | none => none
theorem vtx_val {te : TE} {g : GE} (h : VT K W0 b te g) : VTX K W0 Ex b te (gVal g) := by
  intro W σ c Q k u s q
  unfold gVal at q
  cases e : g c with
  | none => rw [e] at q; exact q.elim
  | some d => rw [e] at q; exact h W σ c d Q k u s e q
def gCallR (m : List D → Option Res) (ga : GA) : GR := fun c => match ga c with
  | some ds => m ds
  | none => none
theorem vtx_res {m : List D → Option Res} {W1 : Wd} {vs : List V} {ds : List D} {Q : VK} {E' : XK} (k1 : WOk W1) (d1 : DenL K W1.F vs ds) (q : XP K W1 E' true Q (m ds)) : spP K m vs W1.H Q E' := by
  cases e2 : m ds with
  | none => rw [e2] at q; exact q.elim
  | some r =>
    rw [e2] at q
    cases r with
    | val d =>
      refine ⟨W1.F, ds, .val d, k1.fh, d1, e2, fun H' F' v a1 a2 a3 a4 a5 => ?_⟩
      obtain ⟨k2, g2, f2⟩ := aft_ok (b := true) k1 a1 a2 a3 a4
      exact q (W1.aft true H' F') v k2 g2 (a5.up f2)
    | exn C ns es =>
      refine ⟨W1.F, ds, .exn C ns es, k1.fh, d1, e2, fun H' F' dx fs a1 a2 a3 a4 a5 a6 a7 a8 => ?_⟩
      obtain ⟨k2, g2, f2⟩ := aft_ok (b := true) k1 a1 a2 a3 a4
      exact q (W1.aft true H' F') dx fs k2 g2 a6 a5 a7 (a8.up f2)
theorem xp_gr {W W1 : Wd} {E' : XK} {Q : VK} (g : Gr W W1) : ∀ {r : Option Res}, XP K W E' b Q r → XP K W1 E' b Q r
  | none, q => q
  | some (.val d), q => fun W' v k' g' hd => q W' v k' (g.trans g') hd
  | some (.exn C ns ds), q => fun W' dx fs k' g' h1 h2 => q W' dx fs k' (g.trans g') h1 (g.h.free h2)
theorem xps_gr {W W1 : Wd} {E' : XK} {Q : List V → Hp → Prop} (g : Gr W W1) : ∀ {r : Option (List D ⊕ (Addr × List Str × List D))}, XPs K W E' b Q r → XPs K W1 E' b Q r
  | none, q => q
  | some (.inl d), q => fun W' v k' g' hd => q W' v k' (g.trans g') hd
  | some (.inr (C, ns, ds)), q => fun W' dx fs k' g' h1 h2 => q W' dx fs k' (g.trans g') h1 (g.h.free h2)
theorem vtx_call {m : List D → Option Res} {ts : TA} {ga : GA} (h : VArg K W0 true ts ga) : VTX K W0 (fun _ => E) true (tCall (spP K m) [] E ts) (gCallR m ga) := by
  intro W σ c Q k u s q
  unfold gCallR at q
  cases e : ga c with
  | none => rw [e] at q; exact q.elim
  | some ds =>
    rw [e] at q
    refine h W σ c ds _ k u s e fun W1 vs k1 g1 d1 => ?_
    rw [List.append_nil]
    exact vtx_res k1 d1 (xp_gr g1 q)
theorem vtx_callS {m : List D → Option Res} {ts : TA} {ga : GA} (h : VArg K W0 true ts ga) : VTX K W0 Ex true (tCallS (spP K m) Ex ts) (gCallR m ga) := by
  intro W σ c Q k u s q
  unfold gCallR at q
  cases e : ga c with
  | none => rw [e] at q; exact q.elim
  | some ds =>
    rw [e] at q
    exact h W σ c ds _ k u s e fun W1 vs k1 g1 d1 => vtx_res k1 d1 (xp_gr g1 q)
def gXNil : GRs := fun _ => some (.inl [])
def gXCons (g : GR) (gs : GRs) : GRs := fun c => match g c with
  | some (.val d) => match gs c with
    | some (.inl ds) => some (.inl (d :: ds))
    | r => r
  | some (.exn C ns ds) => some (.inr (C, ns, ds))
  | none => none
theorem vax_nil : VAX K W0 Ex b tNil gXNil := fun W σ c Q k u s q => q W [] k (Gr.refl W) .nil
theorem vax_cons {te : TE} {ts : TA} {g : GR} {gs : GRs} (h : VTX K W0 Ex b te g) (hs : VAX K W0 Ex b ts gs) : VAX K W0 Ex b (tCons te ts) (gXCons g gs) := by
  intro W σ c Q k u s q
  refine h W σ c _ k u s ?_
  unfold gXCons at q
  cases e : g c with
  | none => rw [e] at q; exact q.elim
  | some r =>
    rw [e] at q
    cases r with
    | exn C ns ds => exact q
    | val d =>
      intro W1 v k1 g1 d1
      refine hs W1 σ c _ k1 (u.gr g1) (s.gr g1) ?_
      simp only at q
      cases e2 : gs c with
      | none => rw [e2] at q; exact q.elim
      | some r2 =>
        rw [e2] at q
        cases r2 with
        | inl ds => exact fun W2 vs k2 g2 d2 => q W2 (v :: vs) k2 (g1.trans g2) (.cons (d1.up (g2.at b)) d2)
        | inr z =>
          obtain ⟨C, ns, ds⟩ := z
          exact fun W2 dx fs k2 g2 h1 h2 => q W2 dx fs k2 (g1.trans g2) h1 (g1.h.free h2)
def gXTup (gs : GRs) : GR := fun c => match gs c with
  | some (.inl ds) => if ds.length ≤ sizeLine then some (.val (.tup ds)) else none
  | some (.inr (C, ns, ds)) => some (.exn C ns ds)
  | none => none
theorem vtx_tup {ts : TA} {gs : GRs} (h : VAX K W0 Ex b ts gs) : VTX K W0 Ex b (tTup ts) (gXTup gs) := by
  intro W σ c Q k u s q
  refine h W σ c _ k u s ?_
  unfold gXTup at q
  cases e : gs c with
  | none => rw [e] at q; exact q.elim
  | some r =>
    rw [e] at q
    cases r with
    | inr z => obtain ⟨C, ns, ds⟩ := z; exact q
    | inl ds =>
      simp only at q
      by_cases hz : ds.length ≤ sizeLine
      · rw [if_pos hz] at q
        intro W1 vs k1 g1 d1
        refine ⟨by rw [d1.length]; exact hz, fun p hp => ?_⟩
        exact q (W1.new b p (.tup vs)) _ (new_ok k1 hp) (g1.trans (new_gr k1 hp)) (.tup (SqT.of new_self) (new_denL k1 hp d1))
      · rw [if_neg hz] at q; exact q.elim
/-- an operation whose left side may raise -/
def gX2 (f : D → D → Option D) (ga : GR) (gb : GE) : GR := fun c => match ga c with
  | some (.val x) => match gb c with
    | some y => match f x y with
      | some z => some (.val z)
      | none => none
    | none => none
  | r => r
theorem vtx_op {r : R2} {f : D → D → Option D} {ta tb : TE} {ga : GR} {gb : GE} (hr : RO K r f) (ha : VTX K W0 Ex b ta ga) (hb : VT K W0 b tb gb) : VTX K W0 Ex b (tOp r ta tb) (gX2 f ga gb) := by
  intro W σ c Q k u s q
  refine ha W σ c _ k u s ?_
  unfold gX2 at q
  cases e : ga c with
  | none => rw [e] at q; exact q.elim
  | some o =>
    rw [e] at q
    cases o with
    | exn C ns ds => exact q
    | val x =>
      simp only at q
      cases e2 : gb c with
      | none => rw [e2] at q; exact q.elim
      | some y =>
        simp only [e2] at q
        cases e3 : f x y with
        | none => rw [e3] at q; exact q.elim
        | some z =>
          simp only [e3] at q
          intro W1 v1 k1 g1 d1
          refine hb W1 σ c y _ k1 (u.gr g1) (s.gr g1) e2 fun W2 v2 k2 g2 d2 => ?_
          exact hr b W2 v1 v2 x y z Q k2 (d1.up (g2.at b)) d2 e3 fun W3 v3 k3 g3 d3 => q W3 v3 k3 (g1.trans (g2.trans g3)) d3
/-! statements of a def that may raise -/
def gRetX (g : GR) : GS := fun c => match g (frzAll c) with
  | some (.val d) => some (.ret d)
  | some (.exn C ns ds) => some (.ex C ns ds)
  | none => none
theorem vs_retX {te : TE} {g : GR} (h : VTX K W0 (fun _ => E) true te g) : VS K W0 E (tRet te) (gRetX g) := by
  intro W σ c D k u s q
  obtain ⟨W', e, k', u', f', s'⟩ := sd_frz (c' := frzAll c) k u s (by simp [frzAll]) (fun i y hy => .inr (by simp [frzAll, hy]))
  show te σ W.H D.rt
  rw [← e]
  refine h W' σ _ _ k' u' s' ?_
  unfold gRetX at q
  cases hg : g (frzAll c) with
  | none => rw [hg] at q; exact q.elim
  | some r =>
    rw [hg] at q
    cases r with
    | val d => exact fun W2 v k2 g2 hd => q W2 v k2 (u'.gr g2) (f'.trans g2.f) hd
    | exn C ns ds => exact fun W2 dx fs k2 g2 h1 h2 h3 h4 => q W2 dx fs k2 (u'.gr g2) (f'.trans g2.f) h1 (u'.h.free h2) h3 h4
/-! ### the suite of a try -/
inductive OutY where
  | nx (c : Env) | ret (d : D)
  | ex (c : Env) (C : Addr) (ns : List Str) (ds : List D)
abbrev GY := Env → Option OutY
def PostY (K : KW) (E : L2.St → XK) (W0 : Wd) (Fs : Hp) (D : Ends) : Option OutY → Prop
  | none => False
  | some (.nx c) => NxP K W0 Fs D.nx c
  | some (.ret d) => ∀ W v, WOk W → Up W0 W → Same Fs W.F → Den K W.F v d → D.rt v W.H
  | some (.ex c C ns ds) => ∀ W σ dx fs, WOk W → Up W0 W → Same Fs W.F → SD K W0 W σ c → W.H dx = some (.xd fs) → W0.H dx = none → fs.map (·.1) = ns → DenL K W.F (fs.map (·.2)) ds → E σ (.ref C) (some dx) W.H
def VSY (K : KW) (W0 : Wd) (E : L2.St → XK) (ts : TS) (g : GY) : Prop :=
  ∀ (W : Wd) (σ : L2.St) (c : Env) (D : Ends), WOk W → Up W0 W → SD K W0 W σ c → PostY K E W0 W.F D (g c) → ts D σ W.H
theorem PostY.mono {F F' : Hp} {D : Ends} (e : Same F F') : ∀ {o : Option OutY}, PostY K Ex W0 F D o → PostY K Ex W0 F' D o
  | none, h => h
  | some (.nx c), h => NxP.mono h e
  | some (.ret d), h => fun W v k u f => h W v k u (e.trans f)
  | some (.ex c C ns ds), h => fun W σ dx fs k u f => h W σ dx fs k u (e.trans f)
def yNext : GY := fun c => some (.nx c)
theorem y_next : VSY K W0 Ex tNext yNext := fun W σ c D k u s h => h W σ k u (Same.refl _) s
def ySeq (g1 g2 : GY) : GY := fun c => match g1 c with
  | some (.nx c') => g2 c'
  | r => r
theorem y_seq {t1 t2 : TS} {g1 g2 : GY} (h1 : VSY K W0 Ex t1 g1) (h2 : VSY K W0 Ex t2 g2) : VSY K W0 Ex (tSeq t1 t2) (ySeq g1 g2) := by
  intro W σ c D k u s h
  refine h1 W σ c { D with nx := t2 D } k u s ?_
  unfold ySeq at h
  cases e : g1 c with
  | none => rw [e] at h; exact h
  | some o =>
    rw [e] at h
    cases o with
    | nx c' => exact fun W' σ' k' u' f' s' => h2 W' σ' c' D k' u' s' (h.mono f')
    | ret d => exact h
    | ex c' C ns ds => exact h
def yIf (p : GB) (g1 g2 : GY) : GY := fun c => match p c with
  | some true => g1 c
  | some false => g2 c
  | none => none
theorem y_if {tt : TT} {p : GB} {t1 t2 : TS} {g1 g2 : GY} (h : VB K W0 tt p) (h1 : VSY K W0 Ex t1 g1) (h2 : VSY K W0 Ex t2 g2) : VSY K W0 Ex (tIfS tt t1 t2) (yIf p g1 g2) := by
  intro W σ c D k u s q
  unfold yIf at q
  cases e : p c with
  | none => rw [e] at q; exact q.elim
  | some b =>
    rw [e] at q
    refine h W σ c b _ k u s e fun W' k' g' => ?_
    cases b with
    | true => rw [if_pos rfl]; exact h1 W' σ c D k' (u.gr g') (s.gr g') (q.mono g'.f)
    | false => rw [if_neg Bool.false_ne_true]; exact h2 W' σ c D k' (u.gr g') (s.gr g') (q.mono g'.f)
def yRet (g : GR) : GY := fun c => match g (frzAll c) with
  | some (.val d) => some (.ret d)
  | some (.exn C ns ds) => some (.ex (frzAll c) C ns ds)
  | none => none
theorem y_ret {te : TE} {g : GR} (h : VTX K W0 Ex true te g) : VSY K W0 Ex (tRet te) (yRet g) := by
  intro W σ c D k u s q
  obtain ⟨W', e, k', u', f', s'⟩ := sd_frz (c' := frzAll c) k u s (by simp [frzAll]) (fun i y hy => .inr (by simp [frzAll, hy]))
  show te σ W.H D.rt
  rw [← e]
  refine h W' σ _ _ k' u' s' ?_
  unfold yRet at q
  cases hg : g (frzAll c) with
  | none => rw [hg] at q; exact q.elim
  | some r =>
    rw [hg] at q
    cases r with
    | val d => exact fun W2 v k2 g2 hd => q W2 v k2 (u'.gr g2) (f'.trans g2.f) hd
    | exn C ns ds => exact fun W2 dx fs k2 g2 h1 h2 h3 h4 => q W2 σ dx fs k2 (u'.gr g2) (f'.trans g2.f) (s'.gr g2) h1 (u'.h.free h2) h3 h4
def yAsg (i : Nat) (g : GR) : GY := fun c => match g c with
  | some (.val d) => some (.nx (c.set i (some (.fz d))))
  | some (.exn C ns ds) => some (.ex c C ns ds)
  | none => none
theorem y_asg {i : Nat} {te : TE} {g : GR} (h : VTX K W0 Ex true te g) : VSY K W0 Ex (tAsg te (gName i)) (yAsg i g) := by
  intro W σ c D k u s q
  refine h W σ c _ k u s ?_
  unfold yAsg at q
  cases hg : g c with
  | none => rw [hg] at q; exact q.elim
  | some r =>
    rw [hg] at q
    cases r with
    | val d => exact fun W2 v k2 g2 hd => q W2 _ k2 (u.gr g2) g2.f (sd_fz (s.gr g2) i hd)
    | exn C ns ds => exact fun W2 dx fs k2 g2 h1 h2 h3 h4 => q W2 σ dx fs k2 (u.gr g2) g2.f (s.gr g2) h1 (u.h.free h2) h3 h4
def yExpr (g : GR) : GY := fun c => match g c with
  | some (.val _) => some (.nx c)
  | some (.exn C ns ds) => some (.ex c C ns ds)
  | none => none
theorem y_expr {te : TE} {g : GR} (h : VTX K W0 Ex b te g) : VSY K W0 Ex (tDrop te) (yExpr g) := by
  intro W σ c D k u s q
  refine h W σ c _ k u s ?_
  unfold yExpr at q
  cases hg : g c with
  | none => rw [hg] at q; exact q.elim
  | some r =>
    rw [hg] at q
    cases r with
    | val d => exact fun W2 v k2 g2 hd => q W2 _ k2 (u.gr g2) g2.f (s.gr g2)
    | exn C ns ds => exact fun W2 dx fs k2 g2 h1 h2 h3 h4 => q W2 σ dx fs k2 (u.gr g2) g2.f (s.gr g2) h1 (u.h.free h2) h3 h4
/-- try: suite except S as n: handler; what the suite may raise is of the class at C, which S names -/
def tTryG (K : PySem.W.Frag) (cV : Value) (i : Nat) (tb : WX → TS) (ts : Addr → Value → Option Addr → TS) (Wout : WX) : TS := fun D σ H => tb (wAs K cV i ts Wout D) D σ H
def gTryG (i : Nat) (C : Addr) (g : GY) (gs : GS) : GS := fun c => match g c with
  | some (.nx c') => some (.nx c')
  | some (.ret d) => some (.ret d)
  | some (.ex c1 C' ns es) => if C' = C ∧ (c1.set i none).all notExc = true then
      match gs (c1.set i (some (.exc C ns es))) with
      | some (.nx c') => if (c'.set i none).all notExc = true then some (.nx (c'.set i none)) else none
      | some (.ret d) => some (.ret d)
      | _ => none
    else none
  | none => none
theorem vs_tryG {i : Nat} {C : Addr} {cV : Value} {tb : WX → TS} {g : GY} {ts : Addr → Value → Option Addr → TS} {gs : GS} {Wout : WX}
    (hx : PySem.W.exmOne K (.ref C) cV = some true) (hb : ∀ Wx : WX, VSY K W0 (WE Wx) (tb Wx) g) (hs : ∀ a d, VS K (excW W0 a d) E (ts a (.ref C) (some d)) gs) :
    VS K W0 E (tTryG K cV i tb ts Wout) (gTryG i C g gs) := by
  intro W σ c D k u s q
  refine hb _ W σ c D k u s ?_
  unfold gTryG at q
  cases e : g c with
  | none => rw [e] at q; exact q.elim
  | some o =>
    rw [e] at q
    cases o with
    | nx c' => exact q
    | ret d => exact q
    | ex c1 C' ns es =>
      simp only at q
      by_cases hC : C' = C ∧ (c1.set i none).all notExc = true
      · rw [if_pos hC] at q
        obtain ⟨rfl, hne⟩ := hC
        intro W2 σ2 dx fs k2 u2 f2 s2 a6 a5 a7 a8
        refine ⟨true, hx, fun _ a na => ?_, fun z => nomatch z⟩
        have u3 : Up (excW W0 a dx) W2 := ⟨u2.h, u2.f, u2.fo⟩
        have s3 : SD K (excW W0 a dx) W2 (σ2.set i none) (c1.set i none) := sd_excW (W0 := W0) (W0' := excW W0 a dx) rfl rfl rfl (fun _ => rfl) hne (sd_set s2 i none none trivial fun l h => (noHold_none h).elim)
        have s4 : SD K (excW W0 a dx) W2 (σ2.set i (some (.ref a))) (c1.set i (some (.exc C' ns es))) := by
          have z := sd_set s3 i (some (.ref a)) (some (.exc C' ns es)) ⟨fs, rfl, a6, a7, a8⟩ fun l h => (noHold_exc h).elim
          rw [List.set_set, List.set_set] at z
          exact z
        refine hs a dx W2 _ _ _ k2 u3 s4 ?_
        cases e3 : gs (c1.set i (some (.exc C' ns es))) with
        | none => rw [e3] at q; exact q.elim
        | some o =>
          rw [e3] at q
          cases o with
          | nx c' =>
            simp only at q
            by_cases hn' : (c'.set i none).all notExc = true
            · rw [if_pos hn'] at q
              intro W3 σ3 k3 u4 f4 s5
              exact q W3 _ k3 ⟨u4.h, u4.f, u4.fo⟩ (f2.trans f4) (sd_excW (W0 := excW W0 a dx) (W0' := W0) rfl rfl rfl (fun _ => rfl) hn' (sd_set s5 i none none trivial fun l h => (noHold_none h).elim))
            · rw [if_neg hn'] at q; exact q.elim
          | ret d => exact fun W3 v k3 u4 f4 d3 => q W3 v k3 ⟨u4.h, u4.f, u4.fo⟩ (f2.trans f4) d3
          | bk c => exact q.elim
          | ct c => exact q.elim
          | ex C ns es => exact q.elim
          | own t => exact q.elim
      · rw [if_neg hC] at q; exact q.elim
end
/-! ### isinstance(e, T), e the exception that the suite holds, with its dict -/
structure IsxC (K : PySem.W.Frag) (D : Addr) : Prop where
  xf : XfC K D
  cl : PySem.W.isClsIn K D = true
  at_ : PySem.W.findIn K (.ref D) "__class__" = some (some (.builtin "object.__class__"))
  get : PySem.W.specialIn K (.builtin "object.__class__") "__get__" = some (some (.builtin "getset_descriptor.__get__"))
  tk : PySem.W.takesIn K (.builtin "object.__class__") = some true
  mr : PySem.W.mroIn K D (.type "object") = some true
def rIsX (K : PySem.W.Frag) (D a : Addr) (cls : Value) (d : Option Addr) : List V → Hp → VK → Prop := fun xs H Q => ∃ (c : V) (cw : Value) (r : Bool) (dd : Addr) (fs : List (Str × V)), xs = [.ref a, c] ∧ cls = .ref D ∧ d = some dd ∧ H dd = some (.xd fs) ∧ (∀ u, RelV c u → u = cw) ∧ PySem.W.kitOne K (.ref D) cw = some r ∧ Q (.bl r) H
theorem call_isX {X : Cx} {a D : Addr} {oe : Obj} {cls : Value} {d : Option Addr} {pn : List (Addr × Obj)} (C : IsxC X.K D) (hz : Zc cls d oe) (hf : ∃ vs, oe.data = .fields vs) : CallR (X.suite a ((a, oe) :: pn)) (.builtin "isinstance") (rIsX X.K D a cls d) := by
  intro pins s σ H xs us Q I r h
  obtain ⟨c, cw, ans, dd, fs, rfl, rfl, rfl, hx, hcw, e, q⟩ := h
  cases r with
  | cons r1 r2 =>
    cases r2 with
    | cons r2 r3 =>
      cases r3
      cases r1
      have ew := hcw _ r2
      subst ew
      obtain ⟨here, _⟩ := I.pin (a, oe) (List.mem_append_left _ List.mem_cons_self)
      have ho : ObjOk X.prog X.w H s.heap dd (.xd fs) := I.hok dd _ hx
      obtain ⟨mA, hns, _⟩ := ho
      obtain ⟨ob, hob, _⟩ := lookIn_ns hns
      obtain ⟨vs, hv⟩ := hf
      have J : PySem.W.InstAt s.heap a oe D (some ob) := ⟨here, hz.1, by unfold PySem.W.notCls; rw [hv] <;> rfl, by rw [hz.2]; exact hob⟩
      exact PySem.W.kia_one (PySem.W.kitx_exc C.cl C.xf.ga C.xf.gg C.xf.exC C.at_ C.get C.tk C.mr) I.kIn J e (fun z => nomatch z) fun tk => ⟨.bl ans, H, I.kept (t' := tk) fun _ _ z => z, rfl, q⟩
section
variable {K : KW} {W0 W : Wd} {b : Bool}
def gIsX (i : Nat) (D : Addr) (ans : Bool) : GE := fun c => match c[i]? with
  | some (some (.exc C' _ _)) => if C' = D then some (.bl ans) else none
  | _ => none
theorem vt_isX {i : Nat} {a d D : Addr} {cv : V} {cw : Value} {ans : Bool} (hcv : ∀ u, RelV cv u → u = cw) (hk : PySem.W.kitOne K (.ref D) cw = some ans) : VT K (excW W0 a d) b (tCB (rIsX K D a (.ref D) (some d)) (tCons (tVar i) (tCons (tC cv) tNil))) (gIsX i D ans) := by
  intro W σ c z Q k u s e q
  unfold gIsX at e
  split at e
  · rename_i C' ns es hc
    split at e
    · rename_i hC
      subst hC
      cases e
      obtain ⟨x, hx, fs, rfl, e1, e2, e3⟩ := s.at hc
      exact ⟨_, hx, _, _, ans, d, fs, rfl, rfl, rfl, e1, hcv, hk, q W _ k (Gr.refl W) (.bl ans)⟩
    · cases e
  · cases e
theorem exm_sub {C S : Addr} (e : PySem.W.subIn K (.ref S) (.type "BaseException") = some true) (i : PySem.W.isClsIn K S = true) (t : PySem.W.typeIn K (.ref S) = some (.type "type")) (s : PySem.W.subIn K (.ref C) (.ref S) = some true) : PySem.W.exmOne K (.ref C) (.ref S) = some true := by
  have i' : (PySem.W.clsIn K S).isSome = true := i
  unfold PySem.W.exmOne
  rw [e]
  refine (if_pos (by simp)).trans ?_
  unfold PySem.W.kitCls
  simp [i', t, s]
theorem kit_same {C : Addr} : PySem.W.kitOne K (.ref C) (.ref C) = some true := by
  unfold PySem.W.kitOne
  exact if_pos (by simp)
theorem kit_sub {C S : Addr} {r : Bool} (n : C ≠ S) (i : PySem.W.isClsIn K S = true) (t : PySem.W.typeIn K (.ref S) = some (.type "type")) (s : PySem.W.subIn K (.ref C) (.ref S) = some r) : PySem.W.kitOne K (.ref C) (.ref S) = some r := by
  have i' : (PySem.W.clsIn K S).isSome = true := i
  unfold PySem.W.kitOne
  refine (if_neg (by simpa using n)).trans ?_
  unfold PySem.W.kitCls
  simp [i', t, s]
theorem kit_ty {C : Addr} {n : String} {r : Bool} (m : PySem.W.kitMeta n = true) (s : PySem.W.subIn K (.ref C) (.type n) = some r) : PySem.W.kitOne K (.ref C) (.type n) = some r := by
  unfold PySem.W.kitOne
  refine (if_neg (by simp)).trans ?_
  unfold PySem.W.kitCls
  simp [m, s]
theorem pt_truthK {K : PySem.W.Frag} {X : Cx} {a : Expr} {ta : TE} (hK : X.K = K) (ha : PE X a ta) (he : ∀ whole, isTrue a X.env whole = (do let v ← whole; standAt a.pos; holding [v] (truthy v))) : PT X a (fun σ H Q => ta σ H fun x H' => ∃ k, TruV K x H' k ∧ Q k H') := by
  subst hK
  exact pt_truth ha he
theorem pe_fldK {K : PySem.W.Frag} {X : Cx} {e : Expr} {f : Str} {ta : TE} {pos : Pos} (hK : X.K = K) (he : PE X e ta) (hb : attributeBase e f X.env (eval e X.env) = eval e X.env) : PE X (.Attribute e f pos) (tFld K ta f) := by
  subst hK
  exact pe_fld he hb
theorem pe_cntK {K : PySem.W.Frag} {X : Cx} {o e : Expr} {to : TE} {t : TA} {apos cpos : Pos} (hK : X.K = K) (ho : PE X o to) (ha : PA X [e] t)
    (hbase : attributeBase o "count" X.env (eval o X.env) = eval o X.env := by rfl)
    (hfew : ((backTo cpos (starEach [e] X.env)).all (fun x => !x.1) && (backToKw cpos (keywordEach [] X.env)).all (fun x => x.1.isSome) && decide ([e].length + ([] : List Keyword).length + (if ([] : List Keyword).isEmpty then 0 else 1) < 30)) = true := by rfl)
    (hline : (apos.endLine == cpos.line) = true := by rfl) (hs : starEach [e] X.env = (false, eval e X.env) :: starEach [] X.env := by rfl) : PE X (.Call (.Attribute o "count" apos) [e] [] cpos) (tBM K "list" (rCntU K) to t) := by
  subst hK
  exact pe_bm PySem.F.plainAttrs_list PySem.F.slot_list_count PySem.F.type_list_count mt_cntU ho ha hbase hfew hline hs
theorem ps_tryG {K : PySem.W.Frag} {X : Cx} {x n : Str} {c : Value} {i : Nat} {body suite : List Stmt} {b₀ : Stmt} {np pos pos' : Pos} {tb : WX → TS} {ts : Addr → Value → Option Addr → TS} {Wout : WX} (hK : X.K = K) (hs : X.stack = X.env :: X.outer) (hf : X.env.frame = some X.env.locals) (hN : X.N.Nodup) (hi : X.N[i]? = some n) (hln : X.env.kindOf n = some .local) (hc : Names X x c) (tk : Takes X Wout)
    (hb : ∀ (W : WX) (pn : List (Addr × Obj)) (xe : Value → Shared → Prop), Takes (X.tr pn xe) W → PassesOwn (model X.prog X.w) X.A X.env xe → PSs (X.tr pn xe) body (tb W))
    (hsu : ∀ (a : Addr) (oe : Obj) (cls : Value) (d : Option Addr) (pn : List (Addr × Obj)), Zc cls d oe → (∃ vs, oe.data = .fields vs) → PSs (X.suite a ((a, oe) :: pn)) (b₀ :: suite) (ts a cls d)) :
    PS X (.Try body [.ExceptHandler (some (.Name x np)) (some n) (b₀ :: suite) pos'] [] [] pos) (tTryG K c i tb ts Wout) := by
  subst hK
  exact ps_try_as hs hf hN hi hln hc tk hb hsu
/-! a, b = a tuple or a list -/
def gTupU (K : PySem.W.Frag) (n : Nat) (t : TGs) : TG := fun v σ H Q => L2.gTup K n t v σ H Q ∨ gLst K n t v σ H Q
theorem pg_tupU {K : PySem.W.Frag} {X : Cx} {pos : Pos} {es : List Expr} {k : Nat} {t : TGs} {n : Nat} (hK : X.K = K) (hc : X.calm = true) (h : PGs X es t) (hn : (assignEach es X.env).length = n := by rfl) (hst : (assignEach es X.env).findIdx? (·.1) = none := by rfl) : PG X (.Tuple es k pos) (gTupU K n t) := by
  subst hK
  refine ⟨fun pins s σ H v u Q I r hw => ?_⟩
  rcases hw with hw | hw
  · exact (pg_tup hc h hn hst).run pins s σ H v u Q I r hw
  · exact (pg_lst hc h hn hst).run pins s σ H v u Q I r hw
def fTupU (n : Nat) (fs : List D → Env → Option Env) : D → Env → Option Env
  | .tup ds, c => if ds.length = n then fs ds c else none
  | .lst ds, c => if ds.length = n then fs ds c else none
  | _, _ => none
theorem vg_tupU {n : Nat} {ts : TGs} {js : List Nat} {fs : List D → Env → Option Env} (hs : VGs K W0 ts js fs) : VG K W0 (gTupU K n ts) js (fTupU n fs) := by
  intro W σ c c' v d Q k s hd e q
  unfold fTupU at e
  split at e
  · split at e
    · rename_i hn
      cases hd with
      | tup h1 h2 => exact .inl ⟨_, _, rfl, sqT_same k.fh h1, by rw [h2.length]; exact hn, hs W σ c c' _ _ Q k s h2 e q⟩
    · cases e
  · split at e
    · rename_i hn
      cases hd with
      | lst h1 h2 => exact .inr ⟨_, _, rfl, SqL.of (k.fh _ _ h1), by rw [h2.length]; exact hn, hs W σ c c' _ _ Q k s h2 e q⟩
    · cases e
  · cases e
end
end VL
end

section
/-! VP: what a statement's function of cells gives, rule by rule. -/
namespace VL
open PySem PySem.Spec PyProof.Rows L2
def Wp (g : GS) (c : Env) (P : Out → Prop) : Prop := ∃ o, g c = some o ∧ P o
def WpK (g : GS) (P : Out → Prop) : Out → Prop
  | .nx c => Wp g c P
  | .ret d => P (.ret d)
  | .bk c => P (.bk c)
  | .ct c => P (.ct c)
  | .ex C ns ds => P (.ex C ns ds)
  | .own t => P (.own t)
section
variable {g g1 g2 gb : GS} {ge ge2 : GE} {c c' : Env} {P R : Out → Prop} {p : GB}
theorem Wp.mono (h : Wp g c P) (i : ∀ o, P o → R o) : Wp g c R := by
  obtain ⟨o, h1, h2⟩ := h
  exact ⟨o, h1, i o h2⟩
theorem wp_seq (h : Wp g1 c (WpK g2 P)) : Wp (gSeq g1 g2) c P := by
  obtain ⟨o, h1, h2⟩ := h
  cases o with
  | nx c' =>
    obtain ⟨o', h3, h4⟩ := h2
    refine ⟨o', ?_, h4⟩
    unfold gSeq
    rw [h1]
    exact h3
  | ret d => exact ⟨_, by unfold gSeq; rw [h1], h2⟩
  | bk d => exact ⟨_, by unfold gSeq; rw [h1], h2⟩
  | ct d => exact ⟨_, by unfold gSeq; rw [h1], h2⟩
  | ex C ns ds => exact ⟨_, by unfold gSeq; rw [h1], h2⟩
  | own t => exact ⟨_, by unfold gSeq; rw [h1], h2⟩
theorem wp_next (h : P (.nx c)) : Wp gNext c P := ⟨_, rfl, h⟩
theorem wp_break (h : P (.bk c)) : Wp gBreak c P := ⟨_, rfl, h⟩
theorem wp_cont (h : P (.ct c)) : Wp gCont c P := ⟨_, rfl, h⟩
theorem wp_if {b : Bool} (hp : p c = some b) (ht : b = true → Wp g1 c P) (hf : b = false → Wp g2 c P) : Wp (gIf p g1 g2) c P := by
  cases b with
  | true => obtain ⟨o, h1, h2⟩ := ht rfl; exact ⟨o, by unfold gIf; rw [hp]; exact h1, h2⟩
  | false => obtain ⟨o, h1, h2⟩ := hf rfl; exact ⟨o, by unfold gIf; rw [hp]; exact h1, h2⟩
theorem wp_ift (hp : p c = some true) (h : Wp g1 c P) : Wp (gIf p g1 g2) c P := wp_if hp (fun _ => h) (fun e => nomatch e)
theorem wp_iff (hp : p c = some false) (h : Wp g2 c P) : Wp (gIf p g1 g2) c P := wp_if hp (fun e => nomatch e) (fun _ => h)
theorem wp_asg {f : D → Env → Option Env} {d : D} (h : ge c = some d) (hf : f d c = some c') (hP : P (.nx c')) : Wp (gAsg ge f) c P :=
  ⟨.nx c', by unfold gAsg; rw [h]; show (match f d c with | some c' => some (Out.nx c') | none => none) = _; rw [hf], hP⟩
theorem wp_set {i : Nat} {d : D} (h : ge c = some d) (hP : P (.nx (c.set i (some (.fz d))))) : Wp (gAsg ge (fName i)) c P := wp_asg h rfl hP
theorem wp_asgN {i : Nat} {ga : GA} {ds : List D} (h : ga c = some ds) (hP : P (.nx (c.set i (some (.own ds))))) : Wp (gAsgN i ga) c P :=
  ⟨_, by unfold gAsgN; rw [h], hP⟩
theorem wp_ret {d : D} (h : ge (frzAll c) = some d) (hP : P (.ret d)) : Wp (gRet ge) c P := ⟨_, by unfold gRet; rw [h], hP⟩
theorem wp_retN (hP : P (.ret .non)) : Wp gRetN c P := ⟨_, rfl, hP⟩
theorem wp_append {i : Nat} {ds : List D} {d : D} (hc : c[i]? = some (some (.own ds))) (h : ge c = some d) (hl : ds.length < sizeLine) (hP : P (.nx (c.set i (some (.own (ds ++ [d])))))) : Wp (gAppend i ge) c P :=
  ⟨_, by unfold gAppend; rw [hc]; show (match ge c with | some d => if ds.length < sizeLine then some (Out.nx (c.set i (some (.own (ds ++ [d]))))) else none | none => none) = _; rw [h]; exact if_pos hl, hP⟩
theorem wp_frz {i : Nat} (h : Wp g (frz i c) P) : Wp (gFrz i g) c P := h
theorem wp_par {i j : Nat} {ga : GA} {x y : D} (h : ga c = some [x, y]) (hP : P (.nx ((c.set i (some (.fz x))).set j (some (.fz y))))) : Wp (gPar i j ga) c P :=
  ⟨_, by unfold gPar; rw [h], hP⟩
theorem wp_drop {d : D} (h : ge c = some d) (hP : P (.nx c)) : Wp (gDrop ge) c P := ⟨_, by unfold gDrop; rw [h], hP⟩
def WpL (f : D → Env → Option Env) (gb : GS) (ds : List D) (c : Env) (P : Out → Prop) : Prop := ∃ o, gLoop f gb ds c = some o ∧ P o
theorem wp_for {gi : GA} {f : D → Env → Option Env} {ds : List D} (hi : gi c = some ds) (h : WpL f gb ds c P) : Wp (gFor gi f gb) c P := by
  obtain ⟨o, h1, h2⟩ := h
  exact ⟨o, by unfold gFor; rw [hi]; exact h1, h2⟩
/-- behind one turn of a loop -/
def Turn (I : Env → Prop) (P : Out → Prop) : Out → Prop
  | .nx c => I c
  | .ct c => I c
  | .bk c => P (.nx c)
  | .ret d => P (.ret d)
  | .ex C ns ds => P (.ex C ns ds)
  | .own t => P (.own t)
theorem wpl_nil {f : D → Env → Option Env} (h : P (.nx c)) : WpL f gb [] c P := ⟨_, rfl, h⟩
theorem wpl_cons {f : D → Env → Option Env} {d : D} {ds : List D} {c1 : Env} (hf : f d c = some c1) (h : Wp gb c1 (Turn (fun c2 => WpL f gb ds c2 P) P)) : WpL f gb (d :: ds) c P := by
  obtain ⟨o, h1, h2⟩ := h
  cases o with
  | nx c2 => obtain ⟨o2, h3, h4⟩ := h2; exact ⟨o2, by unfold gLoop; rw [hf]; show (match gb c1 with | some (.nx c2) => gLoop f gb ds c2 | some (.ct c2) => gLoop f gb ds c2 | some (.bk c2) => some (.nx c2) | r => r) = _; rw [h1]; exact h3, h4⟩
  | ct c2 => obtain ⟨o2, h3, h4⟩ := h2; exact ⟨o2, by unfold gLoop; rw [hf]; show (match gb c1 with | some (.nx c2) => gLoop f gb ds c2 | some (.ct c2) => gLoop f gb ds c2 | some (.bk c2) => some (.nx c2) | r => r) = _; rw [h1]; exact h3, h4⟩
  | bk c2 => exact ⟨_, by unfold gLoop; rw [hf]; show (match gb c1 with | some (.nx c2) => gLoop f gb ds c2 | some (.ct c2) => gLoop f gb ds c2 | some (.bk c2) => some (.nx c2) | r => r) = _; rw [h1], h2⟩
  | ret d => exact ⟨_, by unfold gLoop; rw [hf]; show (match gb c1 with | some (.nx c2) => gLoop f gb ds c2 | some (.ct c2) => gLoop f gb ds c2 | some (.bk c2) => some (.nx c2) | r => r) = _; rw [h1], h2⟩
  | ex C ns es => exact ⟨_, by unfold gLoop; rw [hf]; show (match gb c1 with | some (.nx c2) => gLoop f gb ds c2 | some (.ct c2) => gLoop f gb ds c2 | some (.bk c2) => some (.nx c2) | r => r) = _; rw [h1], h2⟩
  | own t => exact ⟨_, by unfold gLoop; rw [hf]; show (match gb c1 with | some (.nx c2) => gLoop f gb ds c2 | some (.ct c2) => gLoop f gb ds c2 | some (.bk c2) => some (.nx c2) | r => r) = _; rw [h1], h2⟩
/-- THE RULE for a loop: an invariant of what is done -/
theorem wpl_inv {α : Type} {f : D → Env → Option Env} {e : α → D} (I : List α → Env → Prop) : ∀ (ys xs : List α) (c : Env), I ys c →
    (∀ done x rest c, ys ++ xs = done ++ x :: rest → I done c → ∃ c1, f (e x) c = some c1 ∧ Wp gb c1 (Turn (I (done ++ [x])) P)) → (∀ c, I (ys ++ xs) c → P (.nx c)) → WpL f gb (xs.map e) c P
  | ys, [], c, hI, hs, he => wpl_nil (he c (by simpa using hI))
  | ys, x :: xs, c, hI, hs, he => by
    obtain ⟨c1, h1, h2⟩ := hs ys x xs c rfl hI
    refine wpl_cons h1 (h2.mono fun o ho => ?_)
    have hs' : ∀ done y rest c, (ys ++ [x]) ++ xs = done ++ y :: rest → I done c → ∃ c1, f (e y) c = some c1 ∧ Wp gb c1 (Turn (I (done ++ [y])) P) := fun done y rest c q => hs done y rest c (by simpa using q)
    have he' : ∀ c, I ((ys ++ [x]) ++ xs) c → P (.nx c) := fun c q => he c (by simpa using q)
    cases o with
    | nx c2 => exact wpl_inv I (ys ++ [x]) xs c2 ho hs' he'
    | ct c2 => exact wpl_inv I (ys ++ [x]) xs c2 ho hs' he'
    | bk c2 => exact ho
    | ret d => exact ho
    | ex C ns ds => exact ho
    | own t => exact ho
theorem wpl_all {α : Type} {f : D → Env → Option Env} {e : α → D} (I : List α → Env → Prop) {xs : List α} (h0 : I [] c)
    (hs : ∀ done x rest c, xs = done ++ x :: rest → I done c → ∃ c1, f (e x) c = some c1 ∧ Wp gb c1 (Turn (I (done ++ [x])) P)) (he : ∀ c, I xs c → P (.nx c)) : WpL f gb (xs.map e) c P :=
  wpl_inv I [] xs c h0 hs he
/-- a loop over a range -/
theorem wpl_rg {f : D → Env → Option Env} {n : Nat} (I : Nat → Env → Prop) (h0 : I 0 c)
    (hs : ∀ k c, k < n → I k c → ∃ c1, f (.int (k : Nat)) c = some c1 ∧ Wp gb c1 (Turn (I (k + 1)) P)) (he : ∀ c, I n c → P (.nx c)) : WpL f gb (rgD 0 n) c P := by
  have e : rgD 0 n = (List.range n).map fun i => D.int (i : Nat) := by
    unfold rgD
    apply List.map_congr_left
    intro i _
    rw [Int.zero_add]
  rw [e]
  refine wpl_all (fun done c => I done.length c) h0 ?_ ?_
  · intro done x rest c q hI
    have hx : x = done.length ∧ done.length < n := by
      have h1 : (List.range n)[done.length]? = some x := by rw [q]; simp
      have h2 : done.length < n := by
        have := congrArg List.length q
        simp at this
        omega
      rw [List.getElem?_range h2] at h1
      exact ⟨(Option.some.inj h1).symm, h2⟩
    obtain ⟨rfl, h2⟩ := hx
    rw [List.length_append]
    exact hs _ c h2 hI
  · intro c hI
    rw [List.length_range] at hI
    exact he c hI
/-- a loop over enumerate -/
theorem wpl_en {α : Type} {f : D → Env → Option Env} {e : α → D} (I : List α → Env → Prop) : ∀ (ys xs : List α) (c : Env), I ys c →
    (∀ done x rest c, ys ++ xs = done ++ x :: rest → I done c → ∃ c1, f (.tup [.int (done.length : Nat), e x]) c = some c1 ∧ Wp gb c1 (Turn (I (done ++ [x])) P)) → (∀ c, I (ys ++ xs) c → P (.nx c)) → WpL f gb (enD ys.length (xs.map e)) c P
  | ys, [], c, hI, hs, he => wpl_nil (he c (by simpa using hI))
  | ys, x :: xs, c, hI, hs, he => by
    obtain ⟨c1, h1, h2⟩ := hs ys x xs c rfl hI
    refine wpl_cons h1 (h2.mono fun o ho => ?_)
    have hs' : ∀ done y rest c, (ys ++ [x]) ++ xs = done ++ y :: rest → I done c → ∃ c1, f (.tup [.int (done.length : Nat), e y]) c = some c1 ∧ Wp gb c1 (Turn (I (done ++ [y])) P) := fun done y rest c q => hs done y rest c (by simpa using q)
    have he' : ∀ c, I ((ys ++ [x]) ++ xs) c → P (.nx c) := fun c q => he c (by simpa using q)
    have hl : (ys ++ [x]).length = ys.length + 1 := by simp
    cases o with
    | nx c2 => have := wpl_en I (ys ++ [x]) xs c2 ho hs' he'; rw [hl] at this; exact this
    | ct c2 => have := wpl_en I (ys ++ [x]) xs c2 ho hs' he'; rw [hl] at this; exact this
    | bk c2 => exact ho
    | ret d => exact ho
    | ex C ns ds => exact ho
    | own t => exact ho
theorem wp_fldS {C : Addr} {i : Nat} {f : Str} {ns : List Str} {ds : List D} {d : D} (hc : c[i]? = some (some (.slf C ns ds))) (h : ge c = some d) (hf : f ∉ ns ∧ ns.length < 1000) (hP : P (.nx (c.set i (some (.slf C (ns ++ [f]) (ds ++ [d])))))) : Wp (gFldS C i f ge) c P :=
  ⟨_, by unfold gFldS; rw [hc]; show (match ge c with | some d => if C = C ∧ f ∉ ns ∧ ns.length < 1000 then some (Out.nx (c.set i (some (.slf C (ns ++ [f]) (ds ++ [d]))))) else none | none => none) = _; rw [h]; exact if_pos ⟨rfl, hf⟩, hP⟩
theorem i_val {C : Addr} {n nn : Nat} {ds : List D} {ns : List Str} {es : List D} (hl : ds.length = n) (h : Wp g (VL.envI C nn ds) (fun o => ∃ c, o = .nx c ∧ c[0]? = some (some (.slf C ns es)))) : iOf C n nn g ds = some (ns, es) := by
  obtain ⟨o, h1, c, rfl, h2⟩ := h
  unfold iOf
  rw [if_pos hl, h1]
  show (match (c[0]? : Option (Option Cell)) with | some (some (Cell.slf C' ns es)) => if C' = C then some (ns, es) else none | _ => none) = _
  rw [h2]
  exact if_pos rfl
/-- a def's call -/
theorem m_val {n nn : Nat} {ds : List D} {r : Res} (hl : ds.length = n) (h : Wp g (VL.envOf nn ds) (fun o => outRes (some o) = some r)) : mOf n nn g ds = some r := by
  obtain ⟨o, h1, h2⟩ := h
  unfold mOf
  rw [if_pos hl, h1]
  exact h2
theorem m_ex {n nn : Nat} {ds : List D} {S : D → Prop} (hl : ds.length = n) (h : Wp g (VL.envOf nn ds) (fun o => ∃ d, o = .ret d ∧ S d)) : ∃ d, mOf n nn g ds = some (.val d) ∧ S d := by
  obtain ⟨o, h1, d, rfl, h2⟩ := h
  refine ⟨d, ?_, h2⟩
  unfold mOf
  rw [if_pos hl, h1]
  rfl
/-! expressions -/
theorem e_fn {m : List D → Option Res} {ga : GA} {ds : List D} {d : D} (h : ga c = some ds) (hm : m ds = some (.val d)) : gFn m ga c = some d := by
  unfold gFn
  rw [h]
  show (match m ds with | some (.val d) => some d | _ => none) = _
  rw [hm]
theorem e_2 {f : D → D → Option D} {x y z : D} (h1 : ge c = some x) (h2 : ge2 c = some y) (h : f x y = some z) : VL.g2 f ge ge2 c = some z := by
  unfold VL.g2
  rw [h1, h2]
  exact h
theorem e_call {f : List D → Option D} {ga : GA} {ds : List D} {d : D} (h : ga c = some ds) (hf : f ds = some d) : gCall f ga c = some d := by
  unfold gCall
  rw [h]
  exact hf
theorem e_rg1 {ga : GA} {n : Int} (h : ga c = some [.int n]) (h1 : -(2 ^ 62) ≤ n) (h2 : n < 2 ^ 62) : gRg1 ga c = some (rgD 0 n.toNat) := by
  unfold gRg1
  rw [h]
  exact if_pos ⟨h1, h2⟩
theorem e_items {d : D} {ds : List D} (h : ge c = some d) (hi : d.iter = some ds) : gIt ge c = some ds := by
  unfold gIt
  rw [h]
  exact hi
theorem e_and {p q : GB} {a b : Bool} (h1 : p c = some a) (h2 : a = true → q c = some b) : gAnd p q c = some (a && b) := by
  unfold gAnd
  rw [h1]
  cases a with
  | true => exact h2 rfl
  | false => rfl
theorem e_or {p q : GB} {a b : Bool} (h1 : p c = some a) (h2 : a = false → q c = some b) : gOr p q c = some (a || b) := by
  unfold gOr
  rw [h1]
  cases a with
  | false => exact h2 rfl
  | true => rfl
theorem e_not {p : GB} {a : Bool} (h : p c = some a) : gNot p c = some (!a) := by
  unfold gNot
  rw [h]; rfl
theorem e_tru {d : D} {b : Bool} (h : ge c = some d) (ht : d.tru = some b) : gTru ge c = some b := by
  unfold gTru
  rw [h]; exact ht
theorem e_B {b : Bool} (h : ge c = some (.bl b)) : gB ge c = some b := by
  unfold gB
  rw [h]
theorem e_bl {p : GB} {b : Bool} (h : p c = some b) : gBl p c = some (.bl b) := by
  unfold gBl
  rw [h]; rfl
theorem wp_raise2 {C : Addr} {f g' : Str} {gs : GA} {y z : D} (h : gs c = some [y, z]) (hP : P (.ex C [g', f] [z, y])) : Wp (gRaise2 C f g' gs) c P :=
  ⟨_, by unfold gRaise2; rw [h], hP⟩
theorem wp_raise1 {C : Addr} {f : Str} {gs : GA} {y : D} (h : gs c = some [y]) (hP : P (.ex C [f] [y])) : Wp (gRaise1 C f gs) c P :=
  ⟨_, by unfold gRaise1; rw [h], hP⟩
theorem e_fld {C : Addr} {f : Str} {ns : List Str} {ds : List D} {d : D} (h : ge c = some (.ins C ns ds)) (hl : lookD ns ds f = some d) : gFld C f ge c = some d := by
  unfold gFld
  rw [h]
  exact (if_pos rfl).trans hl
theorem e_part {i : Int} (h : ge c = some (.int i)) : gPart ge c = some (some i) := by
  unfold gPart
  rw [h]
theorem e_enum {d : D} {ds : List D} (h : ge c = some d) (hi : d.items = some ds) : gEnum ge c = some (enD 0 ds) := by
  unfold gEnum
  rw [h]
  show d.items.map (enD 0) = _
  rw [hi]; rfl
theorem e_cut {d z : D} {gl gh : Env → Option (Option Int)} {lo hi : Option Int} (h : ge c = some d) (hl : gl c = some lo) (hh : gh c = some hi) (hc : dCut d lo hi = some z) : gCut ge gl gh c = some z := by
  unfold gCut
  rw [h, hl, hh]
  exact hc
theorem e_cons {ga : GA} {x : D} {xs : List D} (h : ge c = some x) (hs : ga c = some xs) : VL.gCons ge ga c = some (x :: xs) := by
  unfold VL.gCons
  rw [h, hs]
theorem e_tup {ga : GA} {xs : List D} (h : ga c = some xs) (hl : xs.length ≤ sizeLine) : VL.gTup ga c = some (.tup xs) := by
  unfold VL.gTup
  rw [h]
  first | exact if_pos hl | rfl
theorem e_lst {ga : GA} {xs : List D} (h : ga c = some xs) : gL ga c = some (.lst xs) := by
  unfold gL
  rw [h]
theorem lc_map {α : Type} {f : D → Env → Option Env} {e h : α → D} {q : α → Bool} : ∀ {xs : List α}, (∀ x ∈ xs, ∃ c1, f (e x) c = some c1 ∧ p c1 = some (q x) ∧ (q x = true → ge c1 = some (h x))) → gLcL f p ge c (xs.map e) = some ((xs.filter q).map h)
  | [], _ => rfl
  | x :: xs, hx => by
    obtain ⟨c1, h1, h2, h3⟩ := hx x (List.mem_cons_self ..)
    have ih := lc_map (xs := xs) fun y hy => hx y (List.mem_cons_of_mem _ hy)
    rw [List.map_cons]
    unfold gLcL
    rw [h1]
    show (match p c1 with | none => none | some false => gLcL f p ge c (xs.map e) | some true => match ge c1 with | none => none | some y => match gLcL f p ge c (xs.map e) with | some ys => some (y :: ys) | none => none) = _
    rw [h2]
    cases hq : q x with
    | false => rw [List.filter_cons_of_neg (by simp [hq])]; exact ih
    | true =>
      rw [List.filter_cons_of_pos hq, h3 hq, ih]
      rfl
theorem e_lcF {α : Type} {gi : GA} {f : D → Env → Option Env} {e h : α → D} {q : α → Bool} {vs : List Nat} {xs : List α} (hi : gi c = some (xs.map e)) (hl : xs.length ≤ sizeLine)
    (hx : ∀ x ∈ xs, ∃ c1, f (e x) (wipeC c vs) = some c1 ∧ p c1 = some (q x) ∧ (q x = true → ge c1 = some (h x))) : gLc gi f p ge vs c = some ((xs.filter q).map h) := by
  unfold gLc
  rw [hi]
  show (if (xs.map e).length ≤ sizeLine then gLcL f p ge (wipeC c vs) (xs.map e) else none) = _
  rw [if_pos (by simpa using hl)]
  exact lc_map hx
theorem e_lc {α : Type} {gi : GA} {f : D → Env → Option Env} {e h : α → D} {vs : List Nat} {xs : List α} (hi : gi c = some (xs.map e)) (hl : xs.length ≤ sizeLine)
    (hx : ∀ x ∈ xs, ∃ c1, f (e x) (wipeC c vs) = some c1 ∧ ge c1 = some (h x)) : gLc gi f gYes ge vs c = some (xs.map h) := by
  have := e_lcF (p := gYes) (ge := ge) (q := fun _ => true) hi hl fun x hm => by
    obtain ⟨c1, h1, h2⟩ := hx x hm
    exact ⟨c1, h1, rfl, fun _ => h2⟩
  rw [show xs.filter (fun _ => true) = xs from List.filter_eq_self.mpr fun _ _ => rfl] at this
  exact this
theorem wp_callX {m : List D → Option Res} {ga : GA} {nxt : D → GS} {ds : List D} {d : D} (h : ga c = some ds) (hm : m ds = some (.val d)) (hP : Wp (nxt d) c P) : Wp (gCallX m ga nxt) c P := by
  obtain ⟨o, h1, h2⟩ := hP
  refine ⟨o, ?_, h2⟩
  unfold gCallX
  rw [h]
  show (match m ds with | some (.val d) => nxt d c | some (.exn C ns es) => some (.ex C ns es) | none => none) = _
  rw [hm]
  exact h1
theorem wp_callX_ex {m : List D → Option Res} {ga : GA} {nxt : D → GS} {ds es : List D} {C : Addr} {ns : List Str} (h : ga c = some ds) (hm : m ds = some (.exn C ns es)) (hP : P (.ex C ns es)) : Wp (gCallX m ga nxt) c P := by
  refine ⟨_, ?_, hP⟩
  unfold gCallX
  rw [h]
  show (match m ds with | some (.val d) => nxt d c | some (.exn C ns es) => some (.ex C ns es) | none => none) = _
  rw [hm]
theorem e_cat {ge' : GE} {a b : List D} (h1 : ge c = some (.lst a)) (h2 : ge' c = some (.lst b)) (hl : a.length + b.length ≤ sizeLine) : gCat ge ge' c = some (a ++ b) := by
  unfold gCat
  rw [h1, h2]
  exact if_pos hl
theorem lc_ex {α β : Type} {f : D → Env → Option Env} {e : α → D} {h : β → D} {S : β → Prop} : ∀ {xs : List α}, (∀ x ∈ xs, ∃ c1 y, f (e x) c = some c1 ∧ ge c1 = some (h y) ∧ S y) → ∃ ys : List β, gLcL f gYes ge c (xs.map e) = some (ys.map h) ∧ ys.length = xs.length ∧ ∀ y ∈ ys, S y
  | [], _ => ⟨[], rfl, rfl, by simp⟩
  | x :: xs, hx => by
    obtain ⟨c1, y, h1, h2, h3⟩ := hx x (List.mem_cons_self ..)
    obtain ⟨ys, i1, i2, i3⟩ := lc_ex (xs := xs) fun z hz => hx z (List.mem_cons_of_mem _ hz)
    refine ⟨y :: ys, ?_, by simp [i2], by intro z hz; rcases List.mem_cons.mp hz with q | q; rw [q]; exact h3; exact i3 z q⟩
    rw [List.map_cons]
    unfold gLcL
    rw [h1]
    show (match ge c1 with | none => none | some y => match gLcL f gYes ge c (xs.map e) with | some ys => some (y :: ys) | none => none) = _
    rw [h2, i1]
    rfl
theorem e_lcE {α β : Type} {gi : GA} {f : D → Env → Option Env} {e : α → D} {h : β → D} {S : β → Prop} {vs : List Nat} {xs : List α} (hi : gi c = some (xs.map e)) (hl : xs.length ≤ sizeLine)
    (hx : ∀ x ∈ xs, ∃ c1 y, f (e x) (wipeC c vs) = some c1 ∧ ge c1 = some (h y) ∧ S y) : ∃ ys : List β, gLc gi f gYes ge vs c = some (ys.map h) ∧ ys.length = xs.length ∧ ∀ y ∈ ys, S y := by
  obtain ⟨ys, h1, h2⟩ := lc_ex hx
  refine ⟨ys, ?_, h2⟩
  unfold gLc
  rw [hi]
  show (if (xs.map e).length ≤ sizeLine then gLcL f gYes ge (wipeC c vs) (xs.map e) else none) = _
  rw [if_pos (by simpa using hl)]
  exact h1
theorem rgD_map (n : Nat) : rgD 0 n = (List.range n).map fun (i : Nat) => D.int (i : Nat) := by
  unfold rgD
  apply List.map_congr_left
  intro i _
  rw [Int.zero_add]
theorem e_make {C : Addr} {m : List D → Option (List Str × List D)} {gs : GA} {ds es : List D} {ns : List Str} (h : gs c = some ds) (hm : m ds = some (ns, es)) : gMake C m gs c = some (.ins C ns es) := by
  unfold gMake
  rw [h]
  show (match m ds with | some (ns, es) => some (D.ins C ns es) | none => none) = _
  rw [hm]
theorem wp_mx {i : Nat} {m : List D → Option (List D × List D)} {ga : GA} {gx : GX} {ds as es : List D} (h : ga c = some ds) (hm : m ds = some (as, es)) (hi : i < c.length) (hP : Wp (gx as es) (c.set i none) P) : Wp (gMx i m ga gx) c P := by
  obtain ⟨o, h1, h2⟩ := hP
  refine ⟨o, ?_, h2⟩
  unfold gMx
  rw [h]
  show (match m ds with | some (as, es) => if i < c.length then gx as es (c.set i none) else none | none => none) = _
  rw [hm]
  exact (if_pos hi).trans h1
theorem wp_xasg {i j : Nat} {gx : GX} {as es : List D} {d : D} (h : ge c = some d) (hij : i ≠ j) (hP : Wp (gx as es) (c.set j (some (.fz d))) P) : Wp (gXAsg i j ge gx as es) c P := by
  obtain ⟨o, h1, h2⟩ := hP
  refine ⟨o, ?_, h2⟩
  unfold gXAsg
  rw [h]
  exact (if_neg hij).trans h1
theorem wp_xapp {i : Nat} {k : Int} {tst : GB} {gx : GX} {as es : List D} {b : Bool} {n : Int} {d : D} (S : List D → Prop) (ht : tst c = some b) (h0 : S es) (hk : k = as.length) (he : ge (c.set i (some (.fz (.lst (as ++ [.lst es]))))) = some (.int n)) (hd : atI es n = some d) (hl : es.length < sizeLine) (h1 : S (es ++ [d])) (hP : ∀ es', S es' → Wp (gx as es') c P) : Wp (gXApp i k tst ge gx as es) c P := by
  cases b with
  | false =>
    obtain ⟨o, q1, q2⟩ := hP es h0
    exact ⟨o, by unfold gXApp; rw [ht]; exact q1, q2⟩
  | true =>
    obtain ⟨o, q1, q2⟩ := hP _ h1
    refine ⟨o, ?_, q2⟩
    unfold gXApp
    rw [ht]
    show (if k = as.length then match ge (c.set i (some (.fz (.lst (as ++ [.lst es]))))) with
      | some (.int n) => match atI es n with
        | some d => if es.length < sizeLine then gx as (es ++ [d]) c else none
        | none => none
      | _ => none
      else none) = _
    rw [if_pos hk, he]
    show (match atI es n with | some d => if es.length < sizeLine then gx as (es ++ [d]) c else none | none => none) = _
    rw [hd]
    exact (if_pos hl).trans q1
theorem wp_xdone {i : Nat} {as es : List D} (hP : Wp g (c.set i (some (.fz (.lst (as ++ [.lst es]))))) P) : Wp (gXDone i g as es) c P := hP
theorem wp_try_ex {i : Nat} {C : Addr} {m : List D → Option Res} {ga : GA} {ds es : List D} {ns : List Str} (h : ga c = some ds) (hm : m ds = some (.exn C ns es)) (hn : (c.set i none).all notExc = true) (hP : Wp g (c.set i (some (.exc C ns es))) (fun o => ∃ d, o = .ret d ∧ P (.ret d))) : Wp (gTry i C m ga g) c P := by
  obtain ⟨o, h1, d, rfl, h2⟩ := hP
  refine ⟨.ret d, ?_, h2⟩
  simp only [gTry, h, hm, h1, hn, and_self, if_true]
theorem e_xf {i : Nat} {C : Addr} {f : Str} {ns : List Str} {es : List D} {d : D} (hc : c[i]? = some (some (.exc C ns es))) (h : lookD ns es f = some d) : gXf i C f c = some d := by
  unfold gXf
  rw [hc]
  exact (if_pos rfl).trans h
/-! a body that returns a new list whose last item is its own -/
def WpM (g : GM) (c : Env) (P : List D × List D → Prop) : Prop := ∃ x, g c = some x ∧ P x
theorem wm_seq {g2 : GM} {P : List D × List D → Prop} (h : Wp g1 c fun o => ∃ c', o = .nx c' ∧ WpM g2 c' P) : WpM (gMSeq g1 g2) c P := by
  obtain ⟨o, h1, c', rfl, x, h2, h3⟩ := h
  exact ⟨x, by unfold gMSeq; rw [h1]; exact h2, h3⟩
theorem wm_ret {i : Nat} {ga : GA} {ds es : List D} {P : List D × List D → Prop} (hc : c[i]? = some (some (.own es))) (h : ga c = some ds) (hl : ds.length < sizeLine) (hP : P (ds, es)) : WpM (gMRet i ga) c P :=
  ⟨_, by unfold gMRet; rw [hc]; show (match ga c with | some ds => if ds.length < sizeLine then some (ds, es) else none | none => none) = _; rw [h]; exact if_pos hl, hP⟩
theorem mm_ex {n nn : Nat} {g : GM} {ds : List D} {S : List D × List D → Prop} (hl : ds.length = n) (h : WpM g (VL.envOf nn ds) S) : ∃ r, mmOf n nn g ds = some r ∧ S r := by
  obtain ⟨x, h1, h2⟩ := h
  exact ⟨x, by unfold mmOf; rw [if_pos hl, h1], h2⟩
end
end VL
end

section
/-! VQ: the drawing defs that the laws have in common. -/
namespace VL
open PySem PySem.Spec PyProof.Rows L2
def gCell : GS :=
 (gSeq (gIf (gB (g2 dLt (gLook 1) (gCall fLen (VL.gCons (gLook 0) VL.gNil)))) (gRet (g2 dIx (gLook 0) (gLook 1))) gNext)
 (gSeq (gAsg (gC (.int 17)) (fName 2))
 (gSeq (gFor (gIt (gVar 0)) (fName 3) (gAsg (g2 dMod (gCall fInt (VL.gCons (g2 dAdd (g2 dMul (gLook 2) (gC (.int 31))) (g2 dMod (gCall fInt (VL.gCons (gLook 3) VL.gNil)) (gC (.int 1000003)))) VL.gNil)) (gC (.int 1000003))) (fName 2)))
 (gRet (g2 dMod (gCall fInt (VL.gCons (g2 dMul (g2 dMul (g2 dAdd (gLook 2) (gC (.int 7))) (g2 dAdd (gLook 1) (gC (.int 3)))) (gC (.int 69621))) VL.gNil)) (gC (.int 2147483647)))))))
def gDig : GS :=
 (gSeq (gAsgN 2 (gLen VL.gNil))
 (gSeq (gAsg (gCall fInt (VL.gCons (gLook 0) VL.gNil)) (fName 3))
 (gSeq (gIf (gB (g2 dGe (gLook 3) (g2 dPow (gC (.int 10)) (gC (.int 18))))) (gSeq (gAsg (g2 dMod (gCall fInt (VL.gCons (g2 dSub (gLook 3) (g2 dPow (gC (.int 10)) (gC (.int 18)))) VL.gNil)) (g2 dPow (gC (.int 10)) (gC (.int 64)))) (fName 3))
 (gSeq (gFor (gIt (gVar 1)) (fName 4) (gSeq (gAppend 2 (g2 dMod (gCall fInt (VL.gCons (gLook 3) VL.gNil)) (gLook 4)))
 (gAsg (g2 dFdiv (gCall fInt (VL.gCons (gLook 3) VL.gNil)) (gLook 4)) (fName 3))))
 (gRet (gVar 2)))) gNext)
 (gSeq (gAsg (g2 dMod (gCall fInt (VL.gCons (gLook 3) VL.gNil)) (gC (.int 2147483629))) (fName 5))
 (gSeq (gFor (gRg1 (VL.gCons (gCall fLen (VL.gCons (gLook 1) VL.gNil)) VL.gNil)) (fName 6) (gSeq (gAsg (g2 dMod (gCall fInt (VL.gCons (g2 dAdd (g2 dAdd (g2 dMul (gLook 5) (gC (.int 48271))) (g2 dMul (gC (.int 974711)) (gLook 6))) (gC (.int 12345))) VL.gNil)) (gC (.int 2147483647))) (fName 5))
 (gSeq (gAsg (g2 dMod (gCall fInt (VL.gCons (g2 dMul (gLook 5) (g2 dAdd (g2 dFdiv (gLook 5) (gC (.int 65537))) (gC (.int 3)))) VL.gNil)) (gC (.int 2147483629))) (fName 7))
 (gAppend 2 (g2 dMod (g2 dFdiv (gLook 7) (gC (.int 19))) (g2 dIx (gLook 1) (gLook 6)))))))
 (gRet (gVar 2)))))))
def gWhole : GS :=
 (gRet (gBl (gAnd (gB (gIsi "int" (gLook 0))) (gB (gBl (gNot (gB (gIsi "bool" (gLook 0)))))))))
abbrev iD (xs : List Int) : List D := xs.map D.int
theorem atI_nat {α : Type} {xs : List α} {k : Nat} {x : α} (h : xs[k]? = some x) : atI xs (k : Int) = some x := by
  unfold atI ixN
  have hk : k < xs.length := (List.getElem?_eq_some_iff.mp h).1
  rw [if_pos (by omega), if_pos (by omega)]
  exact h
theorem d_ix {d : D} {ds : List D} {k : Nat} {x : D} (hd : d.items = some ds) (h : ds[k]? = some x) : dIx d (.int k) = some x := by
  unfold dIx
  cases d with
  | str _ => cases hd
  | dct _ _ _ => cases hd
  | _ => simp only [hd]; exact atI_nat h
theorem d_mod {i j : Int} (h : 0 < j) : dMod (.int i) (.int j) = some (.int (i % j)) := if_pos h
theorem log_small {j : Int} (h : 0 < j) (h2 : j < 2 ^ 200) : j.natAbs.log2 < 9000 := by
  have h3 : j.natAbs < 2 ^ 200 := by omega
  have h4 : j.natAbs.log2 < 200 := (Nat.log2_lt (by omega)).mpr h3
  omega
theorem d_fdiv {i j : Int} (h : 0 < j) (h2 : j < 2 ^ 200) : dFdiv (.int i) (.int j) = some (.int (i / j)) := if_pos (show CDivW i j from ⟨h, log_small h h2⟩)
theorem d_mul {i j : Int} (h : CMul i j) : dMul (.int i) (.int j) = some (.int (i * j)) := if_pos h
theorem d_pow {i j : Int} (h : CPow i j) : dPow (.int i) (.int j) = some (.int (i ^ j.toNat)) := if_pos h
theorem cmul_r {i j : Int} (h1 : -(2 ^ 64) < j) (h2 : j < 2 ^ 64) : CMul i j := .inr ⟨h1, h2⟩
theorem cmul_l {i j : Int} (h1 : -(2 ^ 64) < i) (h2 : i < 2 ^ 64) : CMul i j := .inl ⟨h1, h2⟩
theorem e_c {d : D} {c : Env} : gC d c = some d := rfl
theorem whole_int (i : Int) : mOf 1 1 gWhole [.int i] = some (.val (.bl true)) := rfl


local macro_rules
  | `(tactic| trivial) => `(tactic| (simp [VL.envOf, VL.g2, gVar, gLook, gC, gCall, VL.gCons, VL.gNil, VL.gTup, gB, gTru, gBl, gNot, gAnd, gOr, gFn, gIt, D.iter, D.items, D.tru, fInt, fLen, dAdd, dSub, dCmp, dLt, dLe, dGt, dGe, d_mod, d_fdiv, d_mul, d_pow, frzAll, frzCell, fName, *]; done))
theorem cell_run (xs : List Int) (k : Nat) (hk : k < 1000) : ∃ n : Int, mOf 2 4 gCell [.scr (iD xs), .int (k : Nat)] = some (.val (.int n)) := by
  by_cases h : k < xs.length
  · refine ⟨xs[k], m_val rfl ?_⟩
    refine wp_seq (wp_ift (by trivial) (wp_ret (d := .int xs[k]) ?_ rfl))
    show dIx (.scr (iD xs)) (.int k) = _
    exact d_ix rfl (by simp [iD, h])
  · have : ∃ d, mOf 2 4 gCell [.scr (iD xs), .int (k : Nat)] = some (.val d) ∧ ∃ n, d = .int n := by
      refine m_ex rfl ?_
      refine wp_seq (wp_iff (by trivial) (wp_next ?_))
      refine wp_seq (wp_set (d := .int 17) rfl ?_)
      refine wp_seq (wp_for (ds := iD xs) rfl ?_)
      refine wpl_all (fun _ c => ∃ (s : Int) (y : Option Cell), 0 ≤ s ∧ s < 1000003 ∧ c = [some (.fz (.scr (iD xs))), some (.fz (.int k)), some (.fz (.int s)), y]) ?_ ?_ ?_
      · exact ⟨17, none, by decide, by decide, rfl⟩
      · rintro done x rest c - ⟨s, y, h1, h2, rfl⟩
        refine ⟨_, rfl, ?_⟩
        have m1 : CMul s 31 := cmul_r (by decide) (by decide)
        refine wp_set (d := .int ((s * 31 + x % 1000003) % 1000003)) (by trivial) ?_
        exact ⟨_, _, Int.emod_nonneg _ (by decide), Int.emod_lt_of_pos _ (by decide), rfl⟩
      · rintro c ⟨s, y, h1, h2, rfl⟩
        have m1 : CMul (s + 7) ((k : Int) + 3) := cmul_r (by omega) (by omega)
        have m2 : CMul ((s + 7) * ((k : Int) + 3)) 69621 := cmul_r (by decide) (by decide)
        refine wp_ret (d := .int (((s + 7) * ((k : Int) + 3) * 69621) % 2147483647)) (by trivial) ⟨_, rfl, _, rfl⟩
    obtain ⟨d, h1, n, rfl⟩ := this
    exact ⟨n, h1⟩
/-- the digits are below the sizes -/
def Dig (ds sz : List Int) : Prop := ds.length = sz.length ∧ ∀ (i : Nat) (d s : Int), ds[i]? = some d → sz[i]? = some s → 0 ≤ d ∧ d < s
theorem dig_snoc {ds done : List Int} {x d : Int} (h : Dig ds done) (h1 : 0 ≤ d) (h2 : d < x) : Dig (ds ++ [d]) (done ++ [x]) := by
  refine ⟨by simp [h.1], fun i e s he hs => ?_⟩
  by_cases hi : i < ds.length
  · rw [List.getElem?_append_left hi] at he
    rw [List.getElem?_append_left (by rw [← h.1]; exact hi)] at hs
    exact h.2 i e s he hs
  · rw [List.getElem?_append_right (by omega)] at he
    rw [List.getElem?_append_right (by rw [← h.1]; omega)] at hs
    have hl := h.1
    have e0 : i - ds.length = 0 := by
      have := (List.getElem?_eq_some_iff.mp he).1
      simp at this
      omega
    rw [e0] at he
    rw [← hl, e0] at hs
    cases he; cases hs
    exact ⟨h1, h2⟩
theorem dig_run (n : Int) (sz : List Int) (hs : ∀ s ∈ sz, 0 < s ∧ s < 2 ^ 200) (hl : sz.length < 10000) : ∃ ds : List Int, mOf 2 8 gDig [.int n, .lst (iD sz)] = some (.val (.lst (iD ds))) ∧ Dig ds sz := by
  have key : ∃ d, mOf 2 8 gDig [.int n, .lst (iD sz)] = some (.val d) ∧ ∃ ds, d = .lst (iD ds) ∧ Dig ds sz := by
    refine m_ex rfl ?_
    have p1 : CPow 10 18 := ⟨by decide, by decide, by decide⟩
    have p2 : CPow 10 64 := ⟨by decide, by decide, by decide⟩
    refine wp_seq (wp_asgN (ds := []) rfl ?_)
    refine wp_seq (wp_set (d := .int n) rfl ?_)
    refine wp_seq (wp_if (b := decide (10 ^ 18 ≤ n)) (by trivial) (fun hc => ?_) (fun hc => wp_next ?_))
    · have p3 : (0 : Int) < 10 ^ 64 := by decide
      refine wp_seq (wp_set (d := .int ((n - 10 ^ 18) % 10 ^ 64)) (by trivial) ?_)
      refine wp_seq (wp_for (ds := iD sz) rfl ?_)
      refine wpl_all (fun done c => ∃ (r : Int) (ds : List Int) (y : Option Cell), Dig ds done ∧ c = [some (.fz (.int n)), some (.fz (.lst (iD sz))), some (.own (iD ds)), some (.fz (.int r)), y, none, none, none]) ?_ ?_ ?_
      · exact ⟨_, [], none, ⟨rfl, by simp⟩, rfl⟩
      · rintro done x rest c q ⟨r, ds, y, hd, rfl⟩
        have hx := hs x (by rw [q]; simp)
        have hx1 := hx.1
        have hx2 := hx.2
        have hlen : ds.length < 10000 := by
          have := congrArg List.length q
          simp at this
          have := hd.1
          omega
        refine ⟨_, rfl, ?_⟩
        refine wp_seq (wp_append (ds := iD ds) (d := .int (r % x)) rfl (by trivial) (by simp [iD]; unfold sizeLine; omega) ?_)
        have m1 : dFdiv (.int r) (.int x) = some (.int (r / x)) := d_fdiv hx1 hx2
        refine wp_set (d := .int (r / x)) (by trivial) ?_
        exact ⟨_, ds ++ [r % x], _, dig_snoc hd (Int.emod_nonneg _ (by omega)) (Int.emod_lt_of_pos _ hx1), by simp [iD]; exact ⟨rfl, rfl⟩⟩
      · rintro c ⟨r, ds, y, hd, rfl⟩
        exact wp_ret (d := .lst (iD ds)) rfl ⟨_, rfl, ds, rfl, hd⟩
    · refine wp_seq (wp_set (d := .int (n % 2147483629)) (by trivial) ?_)
      refine wp_seq (wp_for (ds := rgD 0 sz.length) ?_ ?_)
      · have h := e_rg1 (c := [some (.fz (.int n)), some (.fz (.lst (iD sz))), some (.own []), some (.fz (.int n)), none, some (.fz (.int (n % 2147483629))), none, none]) (n := (sz.length : Nat)) (ga := VL.gCons (gCall fLen (VL.gCons (gLook 1) VL.gNil)) VL.gNil) (by trivial) (by omega) (by omega)
        exact h
      refine wpl_rg (fun k c => ∃ (s : Int) (ds : List Int) (y z : Option Cell), 0 ≤ s ∧ s < 2147483647 ∧ Dig ds (sz.take k) ∧ c = [some (.fz (.int n)), some (.fz (.lst (iD sz))), some (.own (iD ds)), some (.fz (.int n)), none, some (.fz (.int s)), y, z]) ?_ ?_ ?_
      · exact ⟨_, [], none, none, Int.emod_nonneg _ (by decide), by have := Int.emod_lt_of_pos n (show (0 : Int) < 2147483629 by decide); omega, ⟨by simp, by simp⟩, rfl⟩
      · rintro k c hk ⟨s, ds, y, z, h0, h1, hd, rfl⟩
        have hx := hs sz[k] (List.getElem_mem _)
        have hx1 := hx.1
        have hlen : ds.length = k := by rw [hd.1, List.length_take]; omega
        refine ⟨_, rfl, ?_⟩
        have m1 : CMul s 48271 := cmul_r (by decide) (by decide)
        have m2 : CMul 974711 (k : Int) := cmul_l (by decide) (by decide)
        have e0 := Int.emod_nonneg (s * 48271 + 974711 * (k : Int) + 12345) (show (2147483647 : Int) ≠ 0 by decide)
        have e1 := Int.emod_lt_of_pos (s * 48271 + 974711 * (k : Int) + 12345) (show (0 : Int) < 2147483647 by decide)
        refine wp_seq (wp_set (d := .int ((s * 48271 + 974711 * (k : Int) + 12345) % 2147483647)) (by trivial) ?_)
        generalize (s * 48271 + 974711 * (k : Int) + 12345) % 2147483647 = t at e0 e1 ⊢
        have m3 : CMul t (t / 65537 + 3) := cmul_l (by omega) (by omega)
        have m4 : dFdiv (.int t) (.int 65537) = some (.int (t / 65537)) := d_fdiv (by decide) (by decide)
        refine wp_seq (wp_set (d := .int (t * (t / 65537 + 3) % 2147483629)) (by trivial) ?_)
        generalize t * (t / 65537 + 3) % 2147483629 = u
        have m5 : dFdiv (.int u) (.int 19) = some (.int (u / 19)) := d_fdiv (by decide) (by decide)
        have m6 : dIx (.lst (iD sz)) (.int (k : Nat)) = some (.int sz[k]) := d_ix rfl (by simp [iD, hk])
        refine wp_append (ds := iD ds) (d := .int (u / 19 % sz[k])) rfl (by trivial) (by simp [iD]; unfold sizeLine; omega) ?_
        refine ⟨t, ds ++ [u / 19 % sz[k]], _, _, e0, e1, ?_, by simp [iD]; exact ⟨rfl, rfl⟩⟩
        rw [List.take_succ, List.getElem?_eq_getElem hk]
        exact dig_snoc hd (Int.emod_nonneg _ (by omega)) (Int.emod_lt_of_pos _ hx1)
      · rintro c ⟨s, ds, y, z, h0, h1, hd, rfl⟩
        refine wp_ret (d := .lst (iD ds)) rfl ⟨_, rfl, ds, rfl, ?_⟩
        rw [List.take_length] at hd
        exact hd
  obtain ⟨d, h1, ds, rfl, h2⟩ := key
  exact ⟨ds, h1, h2⟩
end VL
end

section
/-! VR: plain types told as data; == and slices on them. -/
namespace VL
open PySem PySem.Spec PyProof.Rows L2
/-- a plain type that is told as data: == is = -/
structure Emb {α : Type} [DecidableEq α] (e : α → D) (n : Nat) where
  p : α → PyData
  hp : ∀ a, (e a).py = some (p a)
  ev : ∀ a b, PyData.eqv (p a) (p b) = decide (a = b)
  ly : ∀ a, (p a).canLay0 = true
  dp : ∀ a, (p a).depth ≤ n
theorem dEqB_of {x y : D} {b : Bool} (h : dEqG x y = some b) : dEqB x y = some b := by
  unfold dEqB
  split
  · rename_i i j
    unfold dEqG at h
    simp only [D.py] at h
    split at h
    · rw [← h]; simp only [PyData.eqv]; exact congrArg some (Bool.eq_iff_iff.mpr (by simp))
    · cases h
  · rename_i a c
    unfold dEqG at h
    simp only [D.py] at h
    split at h
    · rw [← h]; simp [PyData.eqv]; exact Bool.beq_eq_decide_eq a c
    · cases h
  · exact h
section
variable {α β γ : Type} [DecidableEq α] [DecidableEq β] [DecidableEq γ] {e : α → D} {f : β → D} {g : γ → D} {n m k : Nat}
theorem Emb.eqB (h : Emb e n) (hn : n ≤ 64) (a b : α) : dEqB (e a) (e b) = some (decide (a = b)) := by
  refine dEqB_of ?_
  unfold dEqG
  rw [h.hp, h.hp]
  have s : ∀ x, SeqAt.shaped (h.p x) = true := fun x => by
    unfold SeqAt.shaped
    rw [h.ly x, Bool.true_and]
    exact decide_eq_true (Nat.le_trans (h.dp x) hn)
  show (if SeqAt.shaped (h.p a) = true ∧ SeqAt.shaped (h.p b) = true then some (PyData.eqv (h.p a) (h.p b)) else none) = _
  rw [if_pos ⟨s a, s b⟩, h.ev]
theorem Emb.eq (h : Emb e n) (hn : n ≤ 64) (a b : α) : dEq (e a) (e b) = some (.bl (decide (a = b))) := by
  unfold dEq
  rw [h.eqB hn]; rfl
theorem Emb.ne (h : Emb e n) (hn : n ≤ 64) (a b : α) : dNe (e a) (e b) = some (.bl (!decide (a = b))) := by
  unfold dNe
  rw [h.eqB hn]; rfl
theorem pyL_map (h : Emb e n) : ∀ xs : List α, D.pyL (xs.map e) = some (xs.map h.p)
  | [] => rfl
  | x :: xs => by
    rw [List.map_cons]
    unfold D.pyL
    rw [h.hp, pyL_map h xs]
    rfl
theorem eqvAll_mapE (h : Emb e n) : ∀ xs ys : List α, PyData.eqvAll (xs.map h.p) (ys.map h.p) = decide (xs = ys)
  | [], [] => by simp [PyData.eqvAll]
  | [], _ :: _ => by simp [PyData.eqvAll]
  | _ :: _, [] => by simp [PyData.eqvAll]
  | x :: xs, y :: ys => by
    rw [List.map_cons, List.map_cons, PyData.eqvAll, h.ev x y, eqvAll_mapE h xs ys, ← Bool.decide_and]
    exact decide_eq_decide.mpr (by rw [List.cons.injEq])
theorem layAll_mapE (h : Emb e n) : ∀ xs : List α, PyData.canLayAll0 (xs.map h.p) = true
  | [] => by simp [PyData.canLayAll0]
  | x :: xs => by rw [List.map_cons, PyData.canLayAll0, h.ly x, layAll_mapE h xs]; rfl
theorem depthAll_mapE (h : Emb e n) : ∀ xs : List α, PyData.depthAll (xs.map h.p) ≤ n
  | [] => by simp [PyData.depthAll]
  | x :: xs => by rw [List.map_cons, PyData.depthAll]; exact Nat.max_le.mpr ⟨h.dp x, depthAll_mapE h xs⟩
def Emb.int : Emb D.int 0 where
  p := .int
  hp _ := rfl
  ev a b := by simp only [PyData.eqv]; exact Bool.eq_iff_iff.mpr (by simp)
  ly _ := by simp [PyData.canLay0]
  dp _ := by simp [PyData.depth]
def Emb.tup (h : Emb e n) : Emb (fun xs : List α => .tup (xs.map e)) (n + 1) where
  p xs := .tuple (xs.map h.p)
  hp xs := by simp only [D.py]; rw [pyL_map h]; rfl
  ev xs ys := by simp only [PyData.eqv]; exact eqvAll_mapE h xs ys
  ly xs := by simp only [PyData.canLay0]; exact layAll_mapE h xs
  dp xs := by simp only [PyData.depth]; exact Nat.succ_le_succ (depthAll_mapE h xs)
def Emb.lst (h : Emb e n) : Emb (fun xs : List α => .lst (xs.map e)) (n + 1) where
  p xs := .list (xs.map h.p)
  hp xs := by simp only [D.py]; rw [pyL_map h]; rfl
  ev xs ys := by simp only [PyData.eqv]; exact eqvAll_mapE h xs ys
  ly xs := by simp only [PyData.canLay0]; exact layAll_mapE h xs
  dp xs := by simp only [PyData.depth]; exact Nat.succ_le_succ (depthAll_mapE h xs)
def Emb.pair (h : Emb e n) (h' : Emb f m) : Emb (fun x : α × β => .tup [e x.1, f x.2]) (max n m + 1) where
  p x := .tuple [h.p x.1, h'.p x.2]
  hp x := by simp only [D.py, D.pyL, h.hp, h'.hp]; rfl
  ev x y := by
    simp only [PyData.eqv, PyData.eqvAll, Bool.and_true]
    rw [h.ev, h'.ev, ← Bool.decide_and]
    exact decide_eq_decide.mpr ⟨fun q => Prod.ext q.1 q.2, fun q => by rw [q]; exact ⟨rfl, rfl⟩⟩
  ly x := by simp only [PyData.canLay0, PyData.canLayAll0, h.ly, h'.ly]; rfl
  dp x := by
    have h1 := h.dp x.1
    have h2 := h'.dp x.2
    simp only [PyData.depth, PyData.depthAll]
    omega
def Emb.triple (h : Emb e n) (h' : Emb f m) (h'' : Emb g k) : Emb (fun x : α × β × γ => .tup [e x.1, f x.2.1, g x.2.2]) (max n (max m k) + 1) where
  p x := .tuple [h.p x.1, h'.p x.2.1, h''.p x.2.2]
  hp x := by simp only [D.py, D.pyL, h.hp, h'.hp, h''.hp]; rfl
  ev x y := by
    simp only [PyData.eqv, PyData.eqvAll, Bool.and_true]
    rw [h.ev, h'.ev, h''.ev, ← Bool.decide_and, ← Bool.decide_and]
    exact decide_eq_decide.mpr ⟨fun q => Prod.ext q.1 (Prod.ext q.2.1 q.2.2), fun q => by rw [q]; exact ⟨rfl, rfl, rfl⟩⟩
  ly x := by simp only [PyData.canLay0, PyData.canLayAll0, h.ly, h'.ly, h''.ly]; rfl
  dp x := by
    have h1 := h.dp x.1
    have h2 := h'.dp x.2.1
    have h3 := h''.dp x.2.2
    simp only [PyData.depth, PyData.depthAll]
    omega
end
/-! symbols, forms, rules -/
abbrev Lt := Fin 128
inductive Sy where
  | v (i : Int)
  | l (c : Lt)
  deriving DecidableEq
def ltS (c : Lt) : Str := ⟨#[c.val]⟩
def Sy.D : Sy → VL.D
  | .v i => .int i
  | .l c => .str (ltS c)
abbrev Form := List Sy
abbrev Rule := Form × Form
abbrev fD (f : Form) : D := .tup (f.map Sy.D)
abbrev rD (r : Rule) : D := .tup [fD r.1, fD r.2]
def alD (al : List Lt) : D := .str ⟨(al.map Fin.val).toArray⟩
def Emb.sy : Emb Sy.D 0 where
  p
    | .v i => .int i
    | .l c => .str (ltS c)
  hp a := by cases a <;> rfl
  ev a b := by
    cases a with
    | v i => cases b with
      | v j => simp only [PyData.eqv]; exact Bool.eq_iff_iff.mpr (by simp)
      | l c => simp [PyData.eqv]
    | l c => cases b with
      | v j => simp [PyData.eqv]
      | l d =>
        simp only [PyData.eqv]
        rw [Bool.beq_eq_decide_eq]
        refine decide_eq_decide.mpr ⟨fun q => ?_, fun q => ?_⟩
        · have q2 : c.val = d.val := by
            unfold ltS at q
            simpa using q
          rw [Fin.ext q2]
        · cases q; rfl
  ly a := by
    cases a with
    | v i => simp [PyData.canLay0]
    | l c =>
      have h := c.isLt
      simp only [PyData.canLay0]
      unfold PyData.strOk ltS
      simp
      omega
  dp a := by cases a <;> simp [PyData.depth]
def Emb.form : Emb fD 1 := Emb.sy.tup
def Emb.rule : Emb rD 2 := Emb.form.pair Emb.form
/-! slices -/
theorem cut_map {α : Type} (e : α → D) (xs : List α) (lo hi : Option Int) : cutD (xs.map e) lo hi = ((xs.drop (HT.sIx xs.length 0 lo)).take (HT.sIx xs.length xs.length hi - HT.sIx xs.length 0 lo)).map e := by
  unfold cutD
  rw [List.length_map, List.map_take, List.map_drop]
theorem cut_mid {α : Type} (e : α → D) (xs : List α) (p m : Nat) (h : p ≤ xs.length) : cutD (xs.map e) (some (p : Int)) (some ((p : Int) + (m : Nat))) = ((xs.drop p).take m).map e := by
  rw [cut_map, show (p : Int) + (m : Nat) = ((p + m : Nat) : Int) by simp, HT.sIx_nat, HT.sIx_nat, Nat.min_eq_left h]
  congr 1
  by_cases h2 : p + m ≤ xs.length
  · rw [Nat.min_eq_left h2, show p + m - p = m by omega]
  · rw [Nat.min_eq_right (by omega), List.take_of_length_le (by rw [List.length_drop]; omega), List.take_of_length_le (by rw [List.length_drop]; omega)]
theorem cut_pre {α : Type} (e : α → D) (xs : List α) (p : Nat) : cutD (xs.map e) none (some (p : Int)) = (xs.take p).map e := by
  rw [cut_map, HT.sIx_nat, HT.sIx_none]
  congr 1
  rw [List.drop_zero, Nat.sub_zero]
  by_cases h : p ≤ xs.length
  · rw [Nat.min_eq_left h]
  · rw [Nat.min_eq_right (by omega), List.take_of_length_le (Nat.le_refl _), List.take_of_length_le (by omega)]
theorem cut_suf {α : Type} (e : α → D) (xs : List α) (p : Nat) : cutD (xs.map e) (some (p : Int)) none = (xs.drop p).map e := by
  rw [cut_map, HT.sIx_nat, HT.sIx_none]
  congr 1
  by_cases h : p ≤ xs.length
  · rw [Nat.min_eq_left h, List.take_of_length_le (by rw [List.length_drop]; omega)]
  · rw [Nat.min_eq_right (by omega), List.drop_of_length_le (Nat.le_refl _), List.drop_of_length_le (by omega), List.take_nil]
theorem cut_any {α : Type} (e : α → D) (xs : List α) (p m : Nat) : cutD (xs.map e) (some (p : Int)) (some ((p : Int) + (m : Nat))) = ((xs.drop p).take m).map e := by
  by_cases h : p ≤ xs.length
  · exact cut_mid e xs p m h
  · rw [cut_map, show (p : Int) + (m : Nat) = ((p + m : Nat) : Int) by simp, HT.sIx_nat, HT.sIx_nat, List.drop_of_length_le (show xs.length ≤ min p xs.length by omega), List.drop_of_length_le (show xs.length ≤ p by omega), List.take_nil, List.take_nil]
theorem findIdx_at {α : Type} {p : α → Bool} {x : α} {rest : List α} : ∀ {done : List α}, (∀ y ∈ done, p y = false) → p x = true → (done ++ x :: rest).findIdx? p = some done.length
  | [], _, h => by simp [List.findIdx?_cons, h]
  | y :: ys, h, hx => by
    rw [List.cons_append, List.findIdx?_cons, h y (List.mem_cons_self ..), findIdx_at (fun z hz => h z (List.mem_cons_of_mem _ hz)) hx]
    rfl
section
theorem e_len {c : Env} {g : GE} {d : D} {ds : List D} (h : g c = some d) (hd : d = .lst ds ∨ d = .tup ds ∨ d = .scr ds) : gCall fLen (VL.gCons g VL.gNil) c = some (.int (ds.length : Nat)) := by
  refine e_call (e_cons h rfl) ?_
  rcases hd with rfl | rfl | rfl <;> rfl
theorem e_rgLen {c : Env} {g : GE} {d : D} {ds : List D} (h : g c = some d) (hd : d = .lst ds ∨ d = .tup ds ∨ d = .scr ds) (hl : ds.length < 100000) : gRg1 (VL.gCons (gCall fLen (VL.gCons g VL.gNil)) VL.gNil) c = some (rgD 0 ds.length) := by
  have := e_rg1 (c := c) (n := (ds.length : Nat)) (ga := VL.gCons (gCall fLen (VL.gCons g VL.gNil)) VL.gNil) (e_cons (e_len h hd) rfl) (by omega) (by omega)
  rw [this]
  rfl
theorem e_ln {c : Env} {gs : GA} {xs : List D} (h : gs c = some xs) (hl : xs.length ≤ sizeLine) : gLen gs c = some xs := by
  unfold gLen
  rw [h]
  first | exact if_pos hl | rfl
theorem ix_map {α : Type} {e : α → D} {xs : List α} {k : Nat} {x : α} {d : D} (hd : d.items = some (xs.map e)) (h : xs[k]? = some x) : dIx d (.int (k : Nat)) = some (e x) := d_ix hd (by simp [h])
theorem ix_mod {α : Type} {e : α → D} {xs : List α} (x : Int) {d : D} (hd : d.items = some (xs.map e)) (h : 0 < xs.length) : ∃ y ∈ xs, dIx d (.int (x % (xs.length : Nat))) = some (e y) := by
  have h1 := Int.emod_nonneg x (show (xs.length : Int) ≠ 0 by omega)
  have h2 := Int.emod_lt_of_pos x (show (0 : Int) < (xs.length : Int) by omega)
  obtain ⟨k, hk⟩ := Int.eq_ofNat_of_zero_le h1
  rw [hk] at h2 ⊢
  have h3 : k < xs.length := by omega
  exact ⟨xs[k], List.getElem_mem _, ix_map hd (List.getElem?_eq_getElem h3)⟩
theorem iter_al (al : List Lt) : (alD al).iter = some ((al.map Sy.l).map Sy.D) := by
  show some ((al.map Fin.val).map fun n => D.str ⟨#[n]⟩) = _
  rw [List.map_map, List.map_map]
  rfl
end
end VL
end

section
/-! VS: texts as lists of letters; digits with int(..); the try; looks. -/
namespace VL
open PySem PySem.Spec PyProof.Rows L2
theorem add_al {x y : List Lt} (h : x.length + y.length ≤ sizeLine) : dAdd (alD x) (alD y) = some (alD (x ++ y)) := by
  have e1 : (⟨(x.map Fin.val).toArray⟩ : Str).length = x.length := by show (x.map Fin.val).toArray.size = _; simp
  have e2 : (⟨(y.map Fin.val).toArray⟩ : Str).length = y.length := by show (y.map Fin.val).toArray.size = _; simp
  show (if (⟨(x.map Fin.val).toArray⟩ : Str).length + (⟨(y.map Fin.val).toArray⟩ : Str).length ≤ sizeLine then some (D.str (⟨(x.map Fin.val).toArray⟩ ++ ⟨(y.map Fin.val).toArray⟩)) else none) = _
  rw [e1, e2, if_pos h]
  show some (D.str ⟨(x.map Fin.val).toArray ++ (y.map Fin.val).toArray⟩) = some (D.str ⟨((x ++ y).map Fin.val).toArray⟩)
  rw [List.map_append]
  simp
theorem len_al {x : List Lt} (h : x.length ≤ sizeLine) : fLen [alD x] = some (.int (x.length : Nat)) := by
  have e1 : (⟨(x.map Fin.val).toArray⟩ : Str).length = x.length := by show (x.map Fin.val).toArray.size = _; simp
  show (if (⟨(x.map Fin.val).toArray⟩ : Str).length ≤ sizeLine then some (D.int (⟨(x.map Fin.val).toArray⟩ : Str).length) else none) = _
  rw [e1, if_pos h]
theorem ix_al {x : List Lt} {k : Nat} {c : Lt} (hl : x.length ≤ sizeLine) (h : x[k]? = some c) : dIx (alD x) (.int (k : Nat)) = some (Sy.l c).D := by
  have e1 : (⟨(x.map Fin.val).toArray⟩ : Str).length = x.length := by show (x.map Fin.val).toArray.size = _; simp
  show (if (⟨(x.map Fin.val).toArray⟩ : Str).length ≤ sizeLine then (atI (x.map Fin.val).toArray.toList (k : Int)).map (fun c => D.str ⟨#[c]⟩) else none) = _
  rw [e1, if_pos hl, atI_nat (x := c.val) (by simp [h])]
  rfl
theorem cut_al {x : List Lt} (lo hi : Option Int) (hl : x.length ≤ sizeLine) : dCut (alD x) lo hi = some (alD ((x.drop (HT.sIx x.length 0 lo)).take (HT.sIx x.length x.length hi - HT.sIx x.length 0 lo))) := by
  have e1 : (⟨(x.map Fin.val).toArray⟩ : Str).length = x.length := by show (x.map Fin.val).toArray.size = _; simp
  show (if (⟨(x.map Fin.val).toArray⟩ : Str).length ≤ sizeLine then some (D.str (cutS ⟨(x.map Fin.val).toArray⟩ lo hi)) else none) = _
  rw [e1, if_pos hl]
  unfold cutS
  rw [e1]
  show some (D.str ⟨(((x.map Fin.val).drop _).take _).toArray⟩) = _
  rw [← List.map_drop, ← List.map_take]
  rfl
theorem cut_al_ex {x : List Lt} (lo hi : Option Int) (hl : x.length ≤ sizeLine) : ∃ y : List Lt, dCut (alD x) lo hi = some (alD y) ∧ y.length ≤ x.length :=
  ⟨_, cut_al lo hi hl, by simp [List.length_take, List.length_drop]; omega⟩
theorem strs_al : ∀ ys : List (List Lt), strsOf (ys.map alD) = some (ys.map fun x => ⟨(x.map Fin.val).toArray⟩)
  | [] => rfl
  | y :: ys => by
    show (match strsOf (ys.map alD) with | some xs => some (_ :: xs) | none => none) = _
    rw [strs_al ys]; rfl
theorem glue_al : ∀ (ys : List (List Lt)) (a : Array Nat), (ys.map fun x => (⟨(x.map Fin.val).toArray⟩ : Str)).foldl (fun acc p => acc ++ (#[] : Array Nat) ++ p.cps) a = a ++ (ys.flatten.map Fin.val).toArray
  | [], a => by simp
  | y :: ys, a => by
    rw [List.map_cons, List.foldl_cons, glue_al ys]
    simp
theorem join_al (ys : List (List Lt)) : Txt.join (⟨#[]⟩ : Str) (ys.map fun x => (⟨(x.map Fin.val).toArray⟩ : Str)) = ⟨(ys.flatten.map Fin.val).toArray⟩ := by
  cases ys with
  | nil => rfl
  | cons y ys =>
    show (⟨(ys.map fun x => (⟨(x.map Fin.val).toArray⟩ : Str)).foldl (fun acc p => acc ++ (#[] : Array Nat) ++ p.cps) (y.map Fin.val).toArray⟩ : Str) = _
    rw [glue_al]
    simp
theorem dJoin_al (ys : List (List Lt)) (h : ys.flatten.length ≤ 10000000) : dJoin (.str "") (.lst (ys.map alD)) = some (alD ys.flatten) := by
  show (match strsOf (ys.map alD) with | some ys => if (ys.map Str.length).sum + ys.length * (0 : Nat) ≤ 16777216 then some (D.str (Txt.join (⟨#[]⟩ : Str) ys)) else none | none => none) = _
  rw [strs_al]
  have e : ((ys.map fun x => (⟨(x.map Fin.val).toArray⟩ : Str)).map Str.length).sum = ys.flatten.length := by
    rw [List.map_map, List.length_flatten]
    congr 1
    apply List.map_congr_left
    intro x _
    show (x.map Fin.val).toArray.size = _
    simp
  show (if ((ys.map fun x => (⟨(x.map Fin.val).toArray⟩ : Str)).map Str.length).sum + _ * 0 ≤ 16777216 then some (D.str (Txt.join (⟨#[]⟩ : Str) (ys.map fun x => (⟨(x.map Fin.val).toArray⟩ : Str)))) else none) = _
  rw [e, Nat.mul_zero, if_pos (by omega), join_al]
  rfl
/-- str of a letter, or of a small number -/
theorem str_lt (c : Lt) : fStr [(Sy.l c).D] = some (alD [c]) := rfl
theorem str_small (i : Int) (h0 : 0 ≤ i) (h1 : i < 16) : ∃ x : List Lt, fStr [.int i] = some (alD x) ∧ x.length ≤ 2 := by
  have : i = 0 ∨ i = 1 ∨ i = 2 ∨ i = 3 ∨ i = 4 ∨ i = 5 ∨ i = 6 ∨ i = 7 ∨ i = 8 ∨ i = 9 ∨ i = 10 ∨ i = 11 ∨ i = 12 ∨ i = 13 ∨ i = 14 ∨ i = 15 := by omega
  rcases this with rfl | rfl | rfl | rfl | rfl | rfl | rfl | rfl | rfl | rfl | rfl | rfl | rfl | rfl | rfl | rfl
  · exact ⟨[48], rfl, by decide⟩
  · exact ⟨[49], rfl, by decide⟩
  · exact ⟨[50], rfl, by decide⟩
  · exact ⟨[51], rfl, by decide⟩
  · exact ⟨[52], rfl, by decide⟩
  · exact ⟨[53], rfl, by decide⟩
  · exact ⟨[54], rfl, by decide⟩
  · exact ⟨[55], rfl, by decide⟩
  · exact ⟨[56], rfl, by decide⟩
  · exact ⟨[57], rfl, by decide⟩
  · exact ⟨[49, 48], rfl, by decide⟩
  · exact ⟨[49, 49], rfl, by decide⟩
  · exact ⟨[49, 50], rfl, by decide⟩
  · exact ⟨[49, 51], rfl, by decide⟩
  · exact ⟨[49, 52], rfl, by decide⟩
  · exact ⟨[49, 53], rfl, by decide⟩
theorem flat_len {α : Type} : ∀ (ys : List (List α)) (m : Nat), (∀ y ∈ ys, y.length ≤ m) → ys.flatten.length ≤ m * ys.length
  | [], _, _ => by simp
  | y :: ys, m, h => by
    have h1 := h y (List.mem_cons_self ..)
    have h2 := flat_len ys m fun z hz => h z (List.mem_cons_of_mem _ hz)
    simp only [List.flatten_cons, List.length_append, List.length_cons, Nat.mul_add]
    omega
/-! the try -/
section
variable {c c1 : Env} {P : Out → Prop}
theorem wp_tryG_ret {i : Nat} {C : Addr} {g : GY} {gs : GS} {d : D} (h : g c = some (.ret d)) (hP : P (.ret d)) : Wp (gTryG i C g gs) c P :=
  ⟨.ret d, by unfold gTryG; rw [h], hP⟩
theorem wp_tryG_nx {i : Nat} {C : Addr} {g : GY} {gs : GS} (h : g c = some (.nx c1)) (hP : P (.nx c1)) : Wp (gTryG i C g gs) c P :=
  ⟨.nx c1, by unfold gTryG; rw [h], hP⟩
theorem wp_tryG_ex {i : Nat} {C : Addr} {g : GY} {gs : GS} {ns : List Str} {es : List D} (h : g c = some (.ex c1 C ns es)) (hn : (c1.set i none).all notExc = true) (hP : Wp gs (c1.set i (some (.exc C ns es))) (fun o => ∃ d, o = .ret d ∧ P (.ret d))) : Wp (gTryG i C g gs) c P := by
  obtain ⟨o, h1, d, rfl, h2⟩ := hP
  refine ⟨.ret d, ?_, h2⟩
  unfold gTryG
  rw [h]
  show (if C = C ∧ (c1.set i none).all notExc = true then _ else none) = _
  rw [if_pos ⟨rfl, hn⟩]
  simp only [h1]
theorem x_val {g : GE} {d : D} (h : g c = some d) : gVal g c = some (.val d) := by unfold gVal; rw [h]
theorem x_callR {m : List D → Option Res} {ga : GA} {ds : List D} {r : Res} (h : ga c = some ds) (hm : m ds = some r) : gCallR m ga c = some r := by unfold gCallR; rw [h]; exact hm
theorem x_nil : gXNil c = some (.inl []) := rfl
theorem x_cons {g : GR} {gs : GRs} {d : D} {ds : List D} (h : g c = some (.val d)) (hs : gs c = some (.inl ds)) : gXCons g gs c = some (.inl (d :: ds)) := by unfold gXCons; rw [h, hs]
theorem x_consR {g : GR} {gs : GRs} {d : D} {C : Addr} {ns : List Str} {es : List D} (h : g c = some (.val d)) (hs : gs c = some (.inr (C, ns, es))) : gXCons g gs c = some (.inr (C, ns, es)) := by unfold gXCons; rw [h, hs]
theorem x_consX {g : GR} {gs : GRs} {C : Addr} {ns : List Str} {es : List D} (h : g c = some (.exn C ns es)) : gXCons g gs c = some (.inr (C, ns, es)) := by unfold gXCons; rw [h]
theorem x_tup {gs : GRs} {ds : List D} (h : gs c = some (.inl ds)) (hl : ds.length ≤ sizeLine) : gXTup gs c = some (.val (.tup ds)) := by unfold gXTup; rw [h]; exact if_pos hl
theorem x_tupX {gs : GRs} {C : Addr} {ns : List Str} {es : List D} (h : gs c = some (.inr (C, ns, es))) : gXTup gs c = some (.exn C ns es) := by unfold gXTup; rw [h]
theorem x_2 {f : D → D → Option D} {ga : GR} {gb : GE} {x y z : D} (h1 : ga c = some (.val x)) (h2 : gb c = some y) (h : f x y = some z) : gX2 f ga gb c = some (.val z) := by unfold gX2; rw [h1]; simp only [h2, h]
theorem x_2X {f : D → D → Option D} {ga : GR} {gb : GE} {C : Addr} {ns : List Str} {es : List D} (h1 : ga c = some (.exn C ns es)) : gX2 f ga gb c = some (.exn C ns es) := by unfold gX2; rw [h1]
theorem y_retV {g : GR} {d : D} (h : g (frzAll c) = some (.val d)) : yRet g c = some (.ret d) := by unfold yRet; rw [h]
theorem y_retX {g : GR} {C : Addr} {ns : List Str} {es : List D} (h : g (frzAll c) = some (.exn C ns es)) : yRet g c = some (.ex (frzAll c) C ns es) := by unfold yRet; rw [h]
theorem y_asgV {i : Nat} {g : GR} {d : D} (h : g c = some (.val d)) : yAsg i g c = some (.nx (c.set i (some (.fz d)))) := by unfold yAsg; rw [h]
theorem y_asgX {i : Nat} {g : GR} {C : Addr} {ns : List Str} {es : List D} (h : g c = some (.exn C ns es)) : yAsg i g c = some (.ex c C ns es) := by unfold yAsg; rw [h]
theorem y_exprV {g : GR} {d : D} (h : g c = some (.val d)) : yExpr g c = some (.nx c) := by unfold yExpr; rw [h]
theorem y_exprX {g : GR} {C : Addr} {ns : List Str} {es : List D} (h : g c = some (.exn C ns es)) : yExpr g c = some (.ex c C ns es) := by unfold yExpr; rw [h]
theorem y_seqN {g1 g2 : GY} {o : Option OutY} (h1 : g1 c = some (.nx c1)) (h2 : g2 c1 = o) : ySeq g1 g2 c = o := by unfold ySeq; rw [h1]; exact h2
theorem y_seqR {g1 g2 : GY} {d : D} (h1 : g1 c = some (.ret d)) : ySeq g1 g2 c = some (.ret d) := by unfold ySeq; rw [h1]
theorem y_seqX {g1 g2 : GY} {C : Addr} {ns : List Str} {es : List D} (h1 : g1 c = some (.ex c1 C ns es)) : ySeq g1 g2 c = some (.ex c1 C ns es) := by unfold ySeq; rw [h1]
theorem y_ift {p : GB} {g1 g2 : GY} {o : Option OutY} (hp : p c = some true) (h : g1 c = o) : yIf p g1 g2 c = o := by unfold yIf; rw [hp]; exact h
theorem y_iff {p : GB} {g1 g2 : GY} {o : Option OutY} (hp : p c = some false) (h : g2 c = o) : yIf p g1 g2 c = o := by unfold yIf; rw [hp]; exact h
theorem wp_retXV {g : GR} {d : D} (h : g (frzAll c) = some (.val d)) (hP : P (.ret d)) : Wp (gRetX g) c P := ⟨_, by unfold gRetX; rw [h], hP⟩
theorem wp_retXX {g : GR} {C : Addr} {ns : List Str} {es : List D} (h : g (frzAll c) = some (.exn C ns es)) (hP : P (.ex C ns es)) : Wp (gRetX g) c P := ⟨_, by unfold gRetX; rw [h], hP⟩
theorem e_imm {g : GE} {d : D} (h : g c = some d) (hi : d.imm = true) : gImm g c = some d := by
  unfold gImm
  rw [h]
  exact if_pos hi
theorem e_isX {i : Nat} {C : Addr} {ns : List Str} {es : List D} {ans : Bool} (hc : c[i]? = some (some (.exc C ns es))) : gIsX i C ans c = some (.bl ans) := by
  unfold gIsX
  rw [hc]
  exact if_pos rfl
end
theorem imm_map {α : Type} {e : α → D} (h : ∀ a, (e a).imm = true) : ∀ xs : List α, D.immL (xs.map e) = true
  | [] => rfl
  | x :: xs => by
    rw [List.map_cons, D.immL, h, imm_map h xs]; rfl
theorem imm_sy (s : Sy) : s.D.imm = true := by cases s <;> rfl
theorem imm_form (f : Form) : (fD f).imm = true := by
  show D.immL _ = true
  exact imm_map imm_sy f
theorem imm_forms (fs : List Form) : (D.tup (fs.map fD)).imm = true := by
  show D.immL _ = true
  exact imm_map imm_form fs
/-! digits with int(..) -/
def gDigI : GS :=
 (gSeq (gAsgN 2 (gLen VL.gNil))
 (gSeq (gAsg (gCall fInt (VL.gCons (gLook 0) VL.gNil)) (fName 3))
 (gSeq (gIf (gB (g2 dGe (gLook 3) (g2 dPow (gC (.int 10)) (gC (.int 18))))) (gSeq (gAsg (g2 dMod (gCall fInt (VL.gCons (g2 dSub (gLook 3) (g2 dPow (gC (.int 10)) (gC (.int 18)))) VL.gNil)) (g2 dPow (gC (.int 10)) (gC (.int 64)))) (fName 3))
 (gSeq (gFor (gIt (gVar 1)) (fName 4) (gSeq (gAppend 2 (g2 dMod (gCall fInt (VL.gCons (gLook 3) VL.gNil)) (gLook 4)))
 (gAsg (g2 dFdiv (gCall fInt (VL.gCons (gLook 3) VL.gNil)) (gLook 4)) (fName 3))))
 (gRet (gVar 2)))) gNext)
 (gSeq (gAsg (g2 dMod (gCall fInt (VL.gCons (gLook 3) VL.gNil)) (gC (.int 2147483629))) (fName 5))
 (gSeq (gFor (gRg1 (VL.gCons (gCall fLen (VL.gCons (gLook 1) VL.gNil)) VL.gNil)) (fName 6) (gSeq (gAsg (g2 dMod (gCall fInt (VL.gCons (g2 dAdd (g2 dAdd (g2 dMul (gLook 5) (gC (.int 48271))) (g2 dMul (gC (.int 974711)) (gLook 6))) (gC (.int 12345))) VL.gNil)) (gC (.int 2147483647))) (fName 5))
 (gSeq (gAsg (g2 dMod (gCall fInt (VL.gCons (g2 dMul (gLook 5) (g2 dAdd (g2 dFdiv (gLook 5) (gC (.int 65537))) (gC (.int 3)))) VL.gNil)) (gC (.int 2147483629))) (fName 7))
 (gAppend 2 (g2 dMod (gCall fInt (VL.gCons (g2 dFdiv (gLook 7) (gC (.int 19))) VL.gNil)) (g2 dIx (gLook 1) (gLook 6)))))))
 (gRet (gVar 2)))))))
local macro_rules
  | `(tactic| trivial) => `(tactic| (simp [VL.envOf, VL.g2, gVar, gLook, gC, gCall, VL.gCons, VL.gNil, VL.gTup, gB, gTru, gBl, gNot, gAnd, gOr, gFn, gIt, D.iter, D.items, D.tru, fInt, fLen, dAdd, dSub, dCmp, dLt, dLe, dGt, dGe, d_mod, d_fdiv, d_mul, d_pow, frzAll, frzCell, fName, *]; done))
theorem digI_run (n : Int) (sz : List Int) (hs : ∀ s ∈ sz, 0 < s ∧ s < 2 ^ 200) (hl : sz.length < 10000) : ∃ ds : List Int, mOf 2 8 gDigI [.int n, .lst (iD sz)] = some (.val (.lst (iD ds))) ∧ Dig ds sz := by
  have key : ∃ d, mOf 2 8 gDigI [.int n, .lst (iD sz)] = some (.val d) ∧ ∃ ds, d = .lst (iD ds) ∧ Dig ds sz := by
    refine m_ex rfl ?_
    have p1 : CPow 10 18 := ⟨by decide, by decide, by decide⟩
    have p2 : CPow 10 64 := ⟨by decide, by decide, by decide⟩
    refine wp_seq (wp_asgN (ds := []) rfl ?_)
    refine wp_seq (wp_set (d := .int n) rfl ?_)
    refine wp_seq (wp_if (b := decide (10 ^ 18 ≤ n)) (by trivial) (fun hc => ?_) (fun hc => wp_next ?_))
    · have p3 : (0 : Int) < 10 ^ 64 := by decide
      refine wp_seq (wp_set (d := .int ((n - 10 ^ 18) % 10 ^ 64)) (by trivial) ?_)
      refine wp_seq (wp_for (ds := iD sz) rfl ?_)
      refine wpl_all (fun done c => ∃ (r : Int) (ds : List Int) (y : Option Cell), Dig ds done ∧ c = [some (.fz (.int n)), some (.fz (.lst (iD sz))), some (.own (iD ds)), some (.fz (.int r)), y, none, none, none]) ?_ ?_ ?_
      · exact ⟨_, [], none, ⟨rfl, by simp⟩, rfl⟩
      · rintro done x rest c q ⟨r, ds, y, hd, rfl⟩
        have hx := hs x (by rw [q]; simp)
        have hx1 := hx.1
        have hx2 := hx.2
        have hlen : ds.length < 10000 := by
          have := congrArg List.length q
          simp at this
          have := hd.1
          omega
        refine ⟨_, rfl, ?_⟩
        refine wp_seq (wp_append (ds := iD ds) (d := .int (r % x)) rfl (by trivial) (by simp [iD]; unfold sizeLine; omega) ?_)
        have m1 : dFdiv (.int r) (.int x) = some (.int (r / x)) := d_fdiv hx1 hx2
        refine wp_set (d := .int (r / x)) (by trivial) ?_
        exact ⟨_, ds ++ [r % x], _, dig_snoc hd (Int.emod_nonneg _ (by omega)) (Int.emod_lt_of_pos _ hx1), by simp [iD]; exact ⟨rfl, rfl⟩⟩
      · rintro c ⟨r, ds, y, hd, rfl⟩
        exact wp_ret (d := .lst (iD ds)) rfl ⟨_, rfl, ds, rfl, hd⟩
    · refine wp_seq (wp_set (d := .int (n % 2147483629)) (by trivial) ?_)
      refine wp_seq (wp_for (ds := rgD 0 sz.length) ?_ ?_)
      · have h := e_rg1 (c := [some (.fz (.int n)), some (.fz (.lst (iD sz))), some (.own []), some (.fz (.int n)), none, some (.fz (.int (n % 2147483629))), none, none]) (n := (sz.length : Nat)) (ga := VL.gCons (gCall fLen (VL.gCons (gLook 1) VL.gNil)) VL.gNil) (by trivial) (by omega) (by omega)
        exact h
      refine wpl_rg (fun k c => ∃ (s : Int) (ds : List Int) (y z : Option Cell), 0 ≤ s ∧ s < 2147483647 ∧ Dig ds (sz.take k) ∧ c = [some (.fz (.int n)), some (.fz (.lst (iD sz))), some (.own (iD ds)), some (.fz (.int n)), none, some (.fz (.int s)), y, z]) ?_ ?_ ?_
      · exact ⟨_, [], none, none, Int.emod_nonneg _ (by decide), by have := Int.emod_lt_of_pos n (show (0 : Int) < 2147483629 by decide); omega, ⟨by simp, by simp⟩, rfl⟩
      · rintro k c hk ⟨s, ds, y, z, h0, h1, hd, rfl⟩
        have hx := hs sz[k] (List.getElem_mem _)
        have hx1 := hx.1
        have hlen : ds.length = k := by rw [hd.1, List.length_take]; omega
        refine ⟨_, rfl, ?_⟩
        have m1 : CMul s 48271 := cmul_r (by decide) (by decide)
        have m2 : CMul 974711 (k : Int) := cmul_l (by decide) (by decide)
        have e0 := Int.emod_nonneg (s * 48271 + 974711 * (k : Int) + 12345) (show (2147483647 : Int) ≠ 0 by decide)
        have e1 := Int.emod_lt_of_pos (s * 48271 + 974711 * (k : Int) + 12345) (show (0 : Int) < 2147483647 by decide)
        refine wp_seq (wp_set (d := .int ((s * 48271 + 974711 * (k : Int) + 12345) % 2147483647)) (by trivial) ?_)
        generalize (s * 48271 + 974711 * (k : Int) + 12345) % 2147483647 = t at e0 e1 ⊢
        have m3 : CMul t (t / 65537 + 3) := cmul_l (by omega) (by omega)
        have m4 : dFdiv (.int t) (.int 65537) = some (.int (t / 65537)) := d_fdiv (by decide) (by decide)
        refine wp_seq (wp_set (d := .int (t * (t / 65537 + 3) % 2147483629)) (by trivial) ?_)
        generalize t * (t / 65537 + 3) % 2147483629 = u
        have m5 : dFdiv (.int u) (.int 19) = some (.int (u / 19)) := d_fdiv (by decide) (by decide)
        have m6 : dIx (.lst (iD sz)) (.int (k : Nat)) = some (.int sz[k]) := d_ix rfl (by simp [iD, hk])
        refine wp_append (ds := iD ds) (d := .int (u / 19 % sz[k])) rfl (by trivial) (by simp [iD]; unfold sizeLine; omega) ?_
        refine ⟨t, ds ++ [u / 19 % sz[k]], _, _, e0, e1, ?_, by simp [iD]; exact ⟨rfl, rfl⟩⟩
        rw [List.take_succ, List.getElem?_eq_getElem hk]
        exact dig_snoc hd (Int.emod_nonneg _ (by omega)) (Int.emod_lt_of_pos _ hx1)
      · rintro c ⟨s, ds, y, z, h0, h1, hd, rfl⟩
        refine wp_ret (d := .lst (iD ds)) rfl ⟨_, rfl, ds, rfl, ?_⟩
        rw [List.take_length] at hd
        exact hd
  obtain ⟨d, h1, ds, rfl, h2⟩ := key
  exact ⟨ds, h1, h2⟩
theorem dig_at {row sz : List Int} (h : Dig row sz) {i : Nat} {s : Int} (hs : sz[i]? = some s) : ∃ k : Nat, row[i]? = some (k : Int) ∧ (k : Int) < s := by
  have hi : i < sz.length := (List.getElem?_eq_some_iff.mp hs).1
  have hi2 : i < row.length := by rw [h.1]; exact hi
  have hg : row[i]? = some row[i] := List.getElem?_eq_getElem hi2
  obtain ⟨h1, h2⟩ := h.2 i _ s hg hs
  obtain ⟨k, hk⟩ := Int.eq_ofNat_of_zero_le h1
  refine ⟨k, ?_, ?_⟩
  · rw [hg, hk]
  · rw [← hk]; exact h2
/-- a digit, read -/
theorem row_at {row sz : List Int} (h : Dig row sz) (i : Nat) {s : Int} (hs : sz[i]? = some s) : ∃ k : Nat, dIx (.lst (iD row)) (.int (i : Nat)) = some (.int (k : Int)) ∧ (k : Int) < s := by
  obtain ⟨k, h1, h2⟩ := dig_at h hs
  exact ⟨k, ix_map rfl h1, h2⟩
/-! lists and tuples of typed data -/
section
variable {α : Type} {e : α → D} {xs ys : List α} {c : Env} {g : GE}
theorem e_lenM (h : g c = some (.lst (xs.map e))) : gCall fLen (VL.gCons g VL.gNil) c = some (.int (xs.length : Nat)) := by
  have := e_len h (.inl rfl); rw [List.length_map] at this; exact this
theorem e_lenT (h : g c = some (.tup (xs.map e))) : gCall fLen (VL.gCons g VL.gNil) c = some (.int (xs.length : Nat)) := by
  have := e_len h (.inr (.inl rfl)); rw [List.length_map] at this; exact this
theorem e_rgM (h : g c = some (.lst (xs.map e))) (hl : xs.length < 100000) : gRg1 (VL.gCons (gCall fLen (VL.gCons g VL.gNil)) VL.gNil) c = some (rgD 0 xs.length) := by
  have := e_rgLen h (.inl rfl) (by simpa using hl); rw [List.length_map] at this; exact this
theorem e_rgT (h : g c = some (.tup (xs.map e))) (hl : xs.length < 100000) : gRg1 (VL.gCons (gCall fLen (VL.gCons g VL.gNil)) VL.gNil) c = some (rgD 0 xs.length) := by
  have := e_rgLen h (.inr (.inl rfl)) (by simpa using hl); rw [List.length_map] at this; exact this
theorem add_lst (h : xs.length + ys.length ≤ sizeLine) : dAdd (.lst (xs.map e)) (.lst (ys.map e)) = some (.lst ((xs ++ ys).map e)) := by
  show (if (xs.map e).length + (ys.map e).length ≤ sizeLine then some (D.lst (xs.map e ++ ys.map e)) else none) = _
  rw [if_pos (by simpa using h), List.map_append]
theorem add_tup (h : xs.length + ys.length ≤ sizeLine) : dAdd (.tup (xs.map e)) (.tup (ys.map e)) = some (.tup ((xs ++ ys).map e)) := by
  show (if (xs.map e).length + (ys.map e).length ≤ sizeLine then some (D.tup (xs.map e ++ ys.map e)) else none) = _
  rw [if_pos (by simpa using h), List.map_append]
theorem cutL_pre (k : Nat) : dCut (.lst (xs.map e)) none (some (k : Int)) = some (.lst ((xs.take k).map e)) := by
  show some (D.lst (cutD (xs.map e) _ _)) = _
  rw [cut_pre]
theorem cutL_suf (k : Nat) : dCut (.lst (xs.map e)) (some (k : Int)) none = some (.lst ((xs.drop k).map e)) := by
  show some (D.lst (cutD (xs.map e) _ _)) = _
  rw [cut_suf]
theorem cutL_any (p m : Nat) : dCut (.lst (xs.map e)) (some (p : Int)) (some ((p : Int) + (m : Nat))) = some (.lst (((xs.drop p).take m).map e)) := by
  show some (D.lst (cutD (xs.map e) _ _)) = _
  rw [cut_any]
theorem cutL_mid (p q : Nat) : dCut (.lst (xs.map e)) (some (p : Int)) (some (q : Int)) = some (.lst (((xs.drop p).take (q - p)).map e)) := by
  show some (D.lst (cutD (xs.map e) _ _)) = _
  by_cases h : p ≤ q
  · obtain ⟨m, rfl⟩ := Nat.exists_eq_add_of_le h
    rw [show ((p + m : Nat) : Int) = (p : Int) + (m : Nat) by simp, cut_any, Nat.add_sub_cancel_left]
  · rw [cut_map, HT.sIx_nat, HT.sIx_nat, show min q xs.length - min p xs.length = 0 by omega, show q - p = 0 by omega]
    simp
theorem cutT_mid (p q : Nat) : dCut (.tup (xs.map e)) (some (p : Int)) (some (q : Int)) = some (.tup (((xs.drop p).take (q - p)).map e)) := by
  show some (D.tup (cutD (xs.map e) _ _)) = _
  by_cases h : p ≤ q
  · obtain ⟨m, rfl⟩ := Nat.exists_eq_add_of_le h
    rw [show ((p + m : Nat) : Int) = (p : Int) + (m : Nat) by simp, cut_any, Nat.add_sub_cancel_left]
  · rw [cut_map, HT.sIx_nat, HT.sIx_nat, show min q xs.length - min p xs.length = 0 by omega, show q - p = 0 by omega]
    simp
end
theorem mul_iD (a : List Int) (n : Nat) (h : a.length * n ≤ 1000000) (hn : n < 1000000) : dMul (.lst (iD a)) (.int (n : Nat)) = some (.lst (iD (List.replicate n a).flatten)) := by
  have hs : 1000000 ≤ sizeLine := by unfold sizeLine; omega
  unfold dMul
  simp only []
  rw [if_pos ⟨by omega, by omega, by rw [List.length_map, Int.toNat_natCast]; omega⟩, Int.toNat_natCast]
  congr 2
  show _ = ((List.replicate n a).flatten).map D.int
  rw [List.map_flatten, List.map_replicate]
abbrev nD (k : Nat) : D := .int (k : Nat)
theorem rg_nD (n : Nat) : rgD 0 n = (List.range n).map nD := rgD_map n
theorem wp_setIx {c : Env} {P : Out → Prop} {i : Nat} {gk ge : GE} {ds : List D} {d : D} {j : Nat} (hc : c[i]? = some (some (.own ds))) (he : ge c = some d) (hk : gk c = some (.int (j : Nat))) (hj : j < ds.length) (hP : P (.nx (c.set i (some (.own (ds.set j d)))))) : Wp (gSetIx i gk ge) c P := by
  refine ⟨.nx (c.set i (some (.own (ds.set j d)))), ?_, hP⟩
  have h1 : ixN ds.length (j : Int) = some j := by
    unfold ixN
    rw [if_pos (by omega), if_pos (by omega)]
    rfl
  unfold gSetIx
  simp only [hc, he, hk, h1]
theorem eqV_int (i j : Int) : eqV (D.int i).toV (D.int j).toV = decide (i = j) := by
  show (i == j) = _
  exact Bool.eq_iff_iff.mpr (by simp)
theorem in_iD (i : Int) (xs : List Int) : dIn (.int i) (.lst (iD xs)) = some (.bl (decide (i ∈ xs))) := by
  have h1 : (iD xs).all D.scal = true := by
    rw [List.all_eq_true]
    intro x hx
    obtain ⟨s, _, rfl⟩ := List.mem_map.mp hx
    rfl
  have h2 : dInB (.int i) (.lst (iD xs)) = some (decide (i ∈ xs)) := by
    show (if (D.int i).scal = true ∧ (iD xs).all D.scal = true then some (((iD xs).map D.toV).any fun v => eqV v (D.int i).toV) else dInD (.int i) (.lst (iD xs))) = _
    rw [if_pos ⟨rfl, h1⟩, List.map_map, List.any_map]
    congr 1
    rw [Bool.eq_iff_iff, List.any_eq_true]
    simp only [Function.comp, decide_eq_true_eq, eqV_int]
    constructor
    · rintro ⟨s, hs, h⟩
      rw [← h]; exact hs
    · intro h
      exact ⟨i, h, rfl⟩
  unfold dIn
  rw [h2]
  rfl
/-! the letters a to z -/
def ltr (k : Nat) : Lt := Fin.ofNat 128 (97 + k)
def every26 : List Lt := (List.range 26).map ltr
theorem every_eq : D.str "abcdefghijklmnopqrstuvwxyz" = alD every26 := rfl
theorem every_at {k : Nat} (h : k < 26) : every26[k]? = some (ltr k) := by
  unfold every26
  rw [List.getElem?_map, List.getElem?_range h]
  rfl
theorem ltr_val {k : Nat} (h : k < 26) : (ltr k).val = 97 + k := by
  show (97 + k) % 128 = 97 + k
  omega
/-- an alphabet: letters a to z, ascending -/
def Alph (al : List Lt) : Prop := ∃ sub : List Nat, sub.Pairwise (· < ·) ∧ (∀ k ∈ sub, k < 26) ∧ sub ≠ [] ∧ al = sub.map ltr
theorem sub_lenF : ∀ (sub : List Nat) (lo : Nat), sub.Pairwise (· < ·) → (∀ k ∈ sub, lo ≤ k ∧ k < 26) → sub.length ≤ 26 - lo
  | [], _, _, _ => by simp
  | k :: sub, lo, h, h2 => by
    obtain ⟨h3, h4⟩ := List.pairwise_cons.mp h
    have h5 := h2 k (List.mem_cons_self ..)
    have := sub_lenF sub (k + 1) h4 fun j hj => ⟨h3 j hj, (h2 j (List.mem_cons_of_mem _ hj)).2⟩
    simp only [List.length_cons]
    omega
theorem sub_len {sub : List Nat} (h : sub.Pairwise (· < ·)) (h2 : ∀ k ∈ sub, k < 26) : sub.length ≤ 26 := sub_lenF sub 0 h fun k hk => ⟨Nat.zero_le _, h2 k hk⟩
theorem Alph.len {al : List Lt} (h : Alph al) : 0 < al.length ∧ al.length ≤ 26 := by
  obtain ⟨sub, h1, h2, h3, rfl⟩ := h
  rw [List.length_map]
  exact ⟨List.length_pos_iff.mpr h3, sub_len h1 h2⟩
end VL
end

section
/-! VZ: split, index, f-strings, int(text), isinstance of an own class, == by an own method, a text backwards. -/
namespace VL
open PySem PySem.Spec PyProof.Rows L2
section
variable {K : KW} {W0 W : Wd} {E : XK} {b b' b1 b2 : Bool}
/-! ### x.split(y) -/
def rSplitU : V → List V → Hp → VK → Prop := fun x xs H Q => ∃ a c, x = .str a ∧ xs = [.str c] ∧ (c.length == 0) = false ∧ a.length + 2 ≤ sizeLine ∧ rNewStrs (Txt.split a c) H Q
theorem pe_splitU {X : Cx} {o e : Expr} {to te : TE} {apos pos : Pos} (ho : PE X o to) (he : PE X e te) (hs : starEach [e] X.env = [(false, eval e X.env)] := by rfl) (hbase : attributeBase o "split" X.env (eval o X.env) = eval o X.env := by rfl) (hline : (apos.endLine == pos.line) = true := by rfl) :
    PE X (.Call (.Attribute o "split" apos) [e] [] pos) (tM1 rSplitU to te) := pe_split ho he hs hbase hline
def gSplit (ga gb : GE) : GA := fun c => match ga c with
  | some (.str x) => match gb c with
    | some (.str y) => if (y.length == 0) = false ∧ x.length + 2 ≤ sizeLine then some ((Txt.split x y).map D.str) else none
    | _ => none
  | _ => none
theorem vn_split {to te : TE} {ga gb : GE} (h1 : VT K W0 b1 to ga) (h2 : VT K W0 b2 te gb) : VN K W0 (tM1 rSplitU to te) (gSplit ga gb) := by
  intro W σ c ds Q k u s e q
  unfold gSplit at e
  split at e
  · rename_i x ex
    split at e
    · rename_i y ey
      split at e
      · rename_i hz
        cases e
        refine h1 W σ c _ _ k u s ex fun W1 v1 k1 g1 d1 => ?_
        cases d1
        refine ⟨⟨x, rfl⟩, h2 W1 σ c _ _ k1 (u.gr g1) (s.gr g1) ey fun W2 v2 k2 g2 d2 => ?_⟩
        cases d2
        exact ⟨x, y, rfl, rfl, hz.1, hz.2, fun p hp => q W2 p _ k2 (g1.trans g2) hp (DenL.of_strs _)⟩
      · cases e
    · cases e
  · cases e
/-! ### x.index(y), flat -/
theorem pe_idxK {K : PySem.W.Frag} {X : Cx} {o e : Expr} {to : TE} {t : TA} {apos cpos : Pos} (hK : X.K = K) (ho : PE X o to) (ha : PA X [e] t)
    (hbase : attributeBase o "index" X.env (eval o X.env) = eval o X.env := by rfl)
    (hfew : ((backTo cpos (starEach [e] X.env)).all (fun x => !x.1) && (backToKw cpos (keywordEach [] X.env)).all (fun x => x.1.isSome) && decide ([e].length + ([] : List Keyword).length + (if ([] : List Keyword).isEmpty then 0 else 1) < 30)) = true := by rfl)
    (hline : (apos.endLine == cpos.line) = true := by rfl) (hs : starEach [e] X.env = (false, eval e X.env) :: starEach [] X.env := by rfl) : PE X (.Call (.Attribute o "index" apos) [e] [] cpos) (tBM K "list" (rIndex K) to t) := by
  subst hK
  exact pe_bm PySem.F.plainAttrs_list PySem.F.slot_list_index PySem.F.type_list_index mt_index ho ha hbase hfew hline hs
def dIdx (x z : D) : Option D := match x with
  | .lst ds => if z.scal = true ∧ ds.all D.scal = true then ((ds.map D.toV).findIdx? fun y => eqV y z.toV).map fun (j : Nat) => D.int (j : Nat) else none
  | _ => none
theorem vt_idx {to te : TE} {ga gb : GE} (h1 : VT K W0 b1 to ga) (h2 : VT K W0 b2 te gb) : VT K W0 b (tBM K "list" (rIndex K) to (tCons te tNil)) (g2 dIdx ga gb) := by
  intro W σ c d Q k u s e q
  obtain ⟨x, z, ex, ez, ef⟩ := g2_some e
  refine h1 W σ c x _ k u s ex fun W1 v1 k1 g1 d1 => ?_
  unfold dIdx at ef
  split at ef
  · split at ef
    · rename_i ds hz
      simp only [Option.map_eq_some_iff] at ef
      obtain ⟨j, hj, rfl⟩ := ef
      cases d1 with
      | @lst a xs _ e1 e2 =>
        obtain ⟨hlt, hp, hno⟩ := List.findIdx?_eq_some_iff_getElem.mp hj
        refine ⟨.inl ⟨rfl, xs, SqL.of ((k1.atH b1) _ _ e1)⟩, h2 W1 σ c z _ k1 (u.gr g1) (s.gr g1) ez fun W2 v2 k2 g2 d2 => ?_⟩
        rw [den_scal d2 hz.1]
        have hx := denL_scal e2 hz.2
        subst hx
        refine ⟨a, _, z.toV, j, _, rfl, rfl, SqL.of (((k1.atH b1).trans g2.h) _ _ e1), flat_toV z, flat_all ds, List.getElem?_eq_getElem hlt, hp, fun m z' hm hz' => ?_, q W2 _ k2 (g1.trans g2) (.int _)⟩
        obtain ⟨hm2, rfl⟩ := List.getElem?_eq_some_iff.mp hz'
        have := hno m hm
        simpa using this
    · cases ef
  · cases ef
/-! ### f-strings -/
def gFmt (g : GE) : GE := fun c => match g c with
  | some (.str y) => if y.length ≤ sizeLine then some (.str y) else none
  | some (.int i) => if i.natAbs.log2 < 1920 then some (.str (toString i)) else none
  | _ => none
theorem vt_fmt {te : TE} {g : GE} (h : VT K W0 b' te g) : VT K W0 b (tFmt te) (gFmt g) := by
  intro W σ c d Q k u s e q
  unfold gFmt at e
  split at e
  · rename_i y hy
    split at e
    · rename_i hz
      cases e
      refine h W σ c _ _ k u s hy fun W1 v1 k1 g1 d1 => ?_
      cases d1
      exact .inl ⟨y, rfl, hz, q W1 _ k1 g1 (.str _)⟩
    · cases e
  · rename_i i hi
    split at e
    · rename_i hz
      cases e
      refine h W σ c _ _ k u s hi fun W1 v1 k1 g1 d1 => ?_
      cases d1
      exact .inr ⟨i, rfl, hz, q W1 _ k1 g1 (.str _)⟩
    · cases e
  · cases e
inductive VJ (K : KW) (W0 : Wd) : List TE → List GE → Prop
  | nil : VJ K W0 [] []
  | cons {t : TE} {g : GE} {ts : List TE} {gs : List GE} (h : VT K W0 true t g) (r : VJ K W0 ts gs) : VJ K W0 (t :: ts) (g :: gs)
def gJs : List GE → Str → Env → Option Str
  | [], acc, _ => some acc
  | g :: gs, acc, c => match g c with
    | some (.str y) => if (acc ++ y).length ≤ sizeLine then gJs gs (acc ++ y) c else none
    | _ => none
theorem vj_run {ts : List TE} {gs : List GE} (h : VJ K W0 ts gs) : ∀ (acc : Str) (W : Wd) (σ : L2.St) (c : Env) (z : Str) (Q : Str → Hp → Prop), WOk W → Up W0 W → SD K W0 W σ c → gJs gs acc c = some z → (∀ W', WOk W' → Gr W W' → Q z W'.H) → tJs ts acc σ W.H Q := by
  induction h with
  | nil =>
    intro acc W σ c z Q k u s e q
    cases e
    exact q W k (Gr.refl W)
  | @cons t g ts gs h r ih =>
    intro acc W σ c z Q k u s e q
    unfold gJs at e
    split at e
    · rename_i y hy
      split at e
      · rename_i hz
        refine h W σ c _ _ k u s hy fun W1 v1 k1 g1 d1 => ?_
        cases d1
        exact ⟨y, rfl, hz, ih _ W1 σ c z Q k1 (u.gr g1) (s.gr g1) e fun W' k' g' => q W' k' (g1.trans g')⟩
      · cases e
    · cases e
def gJoin (gs : List GE) : GE := fun c => (gJs gs Str.empty c).map D.str
theorem vt_joined {ts : List TE} {gs : List GE} (h : VJ K W0 ts gs) : VT K W0 b (fun σ H Q => tJs ts Str.empty σ H fun out H1 => Q (.str out) H1) (gJoin gs) := by
  intro W σ c d Q k u s e q
  unfold gJoin at e
  simp only [Option.map_eq_some_iff] at e
  obtain ⟨z, hz, rfl⟩ := e
  exact vj_run h Str.empty W σ c z _ k u s hz fun W' k' g' => q W' _ k' g' (.str _)
/-! ### int(text) -/
def rIntT : List V → Hp → VK → Prop := fun xs H Q => ∃ a n, xs = [.str a] ∧ PySem.intText? a = some n ∧ a.length ≤ 640 ∧ Q (.int n) H
theorem call_intT {X : Cx} : CallR X (.type "int") rIntT := call_int_str
def fIntT : List D → Option D
  | [.str a] => if a.length ≤ 640 then (PySem.intText? a).map D.int else none
  | _ => none
theorem rcs_intT : RCS K rIntT fIntT := by
  intro W xs ds z Q k hd hf q
  unfold fIntT at hf
  split at hf
  · split at hf
    · rename_i hz
      simp only [Option.map_eq_some_iff] at hf
      obtain ⟨n, hn, rfl⟩ := hf
      cases hd with
      | cons h1 h2 => cases h1; cases h2; exact ⟨_, n, rfl, hn, hz, q _ fun H => .int _⟩
    · cases hf
  · cases hf
/-! ### isinstance of an own class -/
def rIsC (C : Addr) : List V → Hp → VK → Prop := fun xs H Q => ∃ a dx fs, xs = [.ref a, .ref C] ∧ H a = some (.ins C dx fs) ∧ Q (.bl true) H
theorem call_isCU {X : Cx} {C : Addr} (c : C8.InsC X.K C) : CallR X (.builtin "isinstance") (rIsC C) := C8.call_isC c
def gIsC (C : Addr) (g : GE) : GE := fun c => match g c with
  | some (.ins C' _ _) => if C' = C then some (.bl true) else none
  | _ => none
theorem vt_isC {C : Addr} {te : TE} {g : GE} (h : VT K W0 b' te g) : VT K W0 b (tCB (rIsC C) (tCons te (tCons (tC (.ref C)) tNil))) (gIsC C g) := by
  intro W σ c d Q k u s e q
  unfold gIsC at e
  split at e
  · rename_i C' ns ds hd
    split at e
    · rename_i hC
      subst hC
      cases e
      refine h W σ c _ _ k u s hd fun W1 v1 k1 g1 d1 => ?_
      cases d1 with
      | ins h1 h2 h3 => exact ⟨_, _, _, rfl, (k1.atH b') _ _ h1, q W1 _ k1 g1 (.bl true)⟩
    · cases e
  · cases e
/-! ### two data are the same -/
mutual
def D.same : D → D → Bool
  | .non, .non => true
  | .bl x, .bl y => decide (x = y)
  | .int x, .int y => decide (x = y)
  | .str x, .str y => decide (x = y)
  | .tup x, .tup y => D.sameL x y
  | .lst x, .lst y => D.sameL x y
  | .scr x, .scr y => D.sameL x y
  | .ins C ns x, .ins C' ns' y => decide (C = C') && (decide (ns = ns') && D.sameL x y)
  | .dct b ks x, .dct b' ks' y => decide (b = b') && (D.sameL ks ks' && D.sameL x y)
  | _, _ => false
def D.sameL : List D → List D → Bool
  | [], [] => true
  | x :: xs, y :: ys => D.same x y && D.sameL xs ys
  | _, _ => false
end
mutual
theorem D.same_eq : ∀ (x y : D), D.same x y = true → x = y
  | .non, y, h => by cases y <;> simp [D.same] at h; rfl
  | .bl a, y, h => by cases y <;> simp [D.same] at h; rw [h]
  | .int a, y, h => by cases y <;> simp [D.same] at h; rw [h]
  | .str a, y, h => by cases y <;> simp [D.same] at h; rw [h]
  | .tup a, y, h => by cases y <;> simp only [D.same, Bool.false_eq_true] at h; rw [D.sameL_eq a _ h]
  | .lst a, y, h => by cases y <;> simp only [D.same, Bool.false_eq_true] at h; rw [D.sameL_eq a _ h]
  | .scr a, y, h => by cases y <;> simp only [D.same, Bool.false_eq_true] at h; rw [D.sameL_eq a _ h]
  | .ins C ns a, y, h => by
    cases y <;> simp only [D.same, Bool.false_eq_true, Bool.and_eq_true, decide_eq_true_eq] at h
    rw [h.1, h.2.1, D.sameL_eq a _ h.2.2]
  | .dct b ks a, y, h => by
    cases y <;> simp only [D.same, Bool.false_eq_true, Bool.and_eq_true, decide_eq_true_eq] at h
    rw [h.1, D.sameL_eq ks _ h.2.1, D.sameL_eq a _ h.2.2]
theorem D.sameL_eq : ∀ (x y : List D), D.sameL x y = true → x = y
  | [], y, h => by cases y <;> simp [D.sameL] at h; rfl
  | a :: x, y, h => by
    cases y with
    | nil => simp [D.sameL] at h
    | cons c y =>
      simp only [D.sameL, Bool.and_eq_true] at h
      rw [D.same_eq a c h.1, D.sameL_eq x y h.2]
end
mutual
theorem D.same_refl : ∀ x : D, D.same x x = true
  | .non => rfl
  | .bl a => by simp [D.same]
  | .int a => by simp [D.same]
  | .str a => by simp [D.same]
  | .tup a => by simp only [D.same]; exact D.sameL_refl a
  | .lst a => by simp only [D.same]; exact D.sameL_refl a
  | .scr a => by simp only [D.same]; exact D.sameL_refl a
  | .ins C ns a => by simp only [D.same]; rw [D.sameL_refl a]; simp
  | .dct b ks a => by simp only [D.same]; rw [D.sameL_refl ks, D.sameL_refl a]; simp
theorem D.sameL_refl : ∀ x : List D, D.sameL x x = true
  | [] => rfl
  | a :: x => by simp only [D.sameL]; rw [D.same_refl a, D.sameL_refl x]; rfl
end
/-! ### == of two instances, by the class's own method, where they are the same -/
def REq (K : KW) (m : List D → Option Res) : Addr → Addr → Hp → Prop := fun x y H => ∃ (F : Hp) (d : D), Same F H ∧ Den K F (.ref x) d ∧ Den K F (.ref y) d ∧ m [d, d] = some (.val (.bl true))
theorem spEq_of {m : List D → Option Res} {vs : List V} {H : Hp} {Q : VK} {E : XK} (h : L2.spEq (REq K m) vs H Q E) : spP K m vs H Q E := by
  obtain ⟨x, y, rfl, ⟨F, d, hF, h1, h2, hm⟩, q⟩ := h
  refine ⟨F, [d, d], .val (.bl true), hF, .cons h1 (.cons h2 .nil), hm, fun H' F' v s1 s2 s3 s4 hd => ?_⟩
  cases hd
  exact q H' s1
structure EqX (P : Program) (w : World) (K : PySem.W.Frag) (mg : Str → Option Value) (base : Heap) (cl : Nat → Addr) (n : Nat) (C : Addr) (m : List D → Option Res) : Prop where
  ex : ∃ (f : Addr) (fd : FuncData) (ps : List Str), FnOk P w K mg base CX0 n f fd ps (L2.spEq (REq (kw K w cl) m)) ∧ PySem.W.findIn K (.ref C) "__eq__" = some (some (.ref f)) ∧ PySem.W.isFn K (.ref f) = true ∧ Binds K fd ps []
theorem op_eqO {X : Cx} {n j : Nat} {C : Addr} {cl : Nat → Addr} {m : List D → Option Res} (c : EqX X.prog X.w X.K X.mg X.base cl n C m) (hr : Room j X.A) (hk : n ≤ j) : OpR X (compareOp .Eq) (rEqG (DIns C (REq (kw X.K X.w cl) m))) := by
  obtain ⟨f, fd, ps, F, hs, hf, hb⟩ := c.ex
  exact op_eqG (rcG_ins (E := fun _ _ _ => False) F hs hf hb pass0) (hr.mono hk)
def gEqO (C : Addr) (m : List D → Option Res) (ga gb : GE) : GE := fun c => match ga c with
  | some (.ins C1 ns ds) => match gb c with
    | some e => if C1 = C ∧ D.same (.ins C1 ns ds) e = true then match m [e, e] with
        | some (.val (.bl true)) => some (.bl true)
        | _ => none
      else none
    | none => none
  | _ => none
theorem vt_eqO {C : Addr} {m : List D → Option Res} {ta tb : TE} {ga gb : GE} (h1 : VT K W0 b1 ta ga) (h2 : VT K W0 b2 tb gb) : VT K W0 b (tOp (rEqG (DIns C (REq K m))) ta tb) (gEqO C m ga gb) := by
  intro W σ c d Q k u s e q
  unfold gEqO at e
  split at e
  · rename_i C1 ns ds ex
    split at e
    · rename_i y ey
      split at e
      · rename_i hh
        split at e
        · rename_i hm
          cases e
          obtain ⟨hC, hs⟩ := hh
          have hy := D.same_eq _ _ hs
          subst hy hC
          refine h1 W σ c _ _ k u s ex fun W1 v1 k1 g1 d1 => ?_
          refine h2 W1 σ c _ _ k1 (u.gr g1) (s.gr g1) ey fun W2 v2 k2 g2 d2 => ?_
          have e1 := d1.up ((g2.at b1).trans (k2.atG b1))
          have e2 := d2.up (k2.atG b2)
          cases e1 with
          | @ins a1 _ dx1 fs1 _ _ i1 i2 i3 =>
            cases e2 with
            | @ins a2 _ dx2 fs2 _ _ j1 j2 j3 =>
              refine ⟨⟨a1, a2, dx1, dx2, fs1, fs2, rfl, rfl, k2.gh _ _ i1, k2.gh _ _ j1, W2.G, .ins C1 ns ds, k2.gh, .ins i1 i2 i3, .ins j1 j2 j3, hm⟩, fun H' hx => ?_⟩
              refine q ⟨H', W2.G, W2.F⟩ _ ⟨k2.fg, k2.gh.trans hx, k2.gt⟩ ((g1.trans g2).trans ⟨hx, Same.refl _, Same.refl _, fun _ _ _ => rfl, fun _ _ _ => rfl⟩) (.bl true)
        · cases e
      · cases e
    · cases e
  · cases e
/-! ### a text backwards -/
def revS (z : Str) : Str := ⟨z.cps.toList.reverse.toArray⟩
def tRevS (te : TE) : TE := fun σ H Q => te σ H fun x H1 => ∃ z : Str, x = .str z ∧ z.length ≤ sizeLine ∧ Q (.str (revS z)) H1
theorem picked_rev (z : Str) (t : Tok) : ((slicePicked z none none (some (-1, t))).filterMap (z.cps[·]?)).toArray = z.cps.toList.reverse.toArray := by
  have e : slicePicked z none none (some (-1, t)) = sliceRange ((z.length : Int) - 1) (-1) (-1) := rfl
  have h := PySem.W.krv_all z.cps
  rw [e, PySem.W.krv_sliceRange, PySem.W.krv_range, List.filterMap_reverse]
  show ((List.range z.cps.size).filterMap (z.cps[·]?)).reverse.toArray = _
  rw [h]
theorem pe_revS {X : Cx} {e : Expr} {te : TE} {k : Nat} {p1 p2 p3 pos : Pos} (he : PE X e te) : PE X (.Subscript e (.Slice none none (some (.UnaryOp .USub (.Constant (.int 1) k p1) p2)) p3) pos) (tRevS te) := by
  refine ⟨fun pins s σ H Q I h => Subscript_ (thn (he.run pins s σ H _ I h) fun v s1 hv => ?_)⟩
  obtain ⟨x, H1, I1, r1, z, rfl, hz, q⟩ := hv
  obtain ⟨t, rfl⟩ := r1
  have hst : PO X (some (.UnaryOp .USub (.Constant (.int 1) k p1) p2)) (tPart (tUn (rU fun i => .int (-i)) (tC (.int 1)))) := po_some (pe_un un_neg pe_int)
  refine wpAny_Slice (thn (po_none.run pins s1 σ H1 (fun o G => o = none ∧ G = H1) I1 ⟨rfl, rfl⟩) fun vl s2 hl => ?_)
  obtain ⟨l, G2, I2, pl, rfl, rfl⟩ := hl
  refine thn (po_none.run pins s2 σ G2 (fun o G => o = none ∧ G = G2) I2 ⟨rfl, rfl⟩) fun vu s3 hu => ?_
  obtain ⟨u, G3, I3, pu, rfl, rfl⟩ := hu
  refine thn (hst.run pins s3 σ G3 (fun o G => o = some (-1) ∧ G = G3) I3 ⟨1, rfl, -1, rfl, rfl, rfl⟩) fun vs s4 hs => ?_
  obtain ⟨o, G4, I4, ps, rfl, rfl⟩ := hs
  cases pl
  cases pu
  obtain ⟨st, rfl, hst2⟩ := IsPart.raw ps
  cases st with
  | none => cases hst2
  | some st =>
    obtain ⟨i, ti⟩ := st
    cases hst2
    have I5 : Inv X pins σ G4 { s4 with heap := s4.heap.push { cls := .type "slice", data := .fields #[.none, .none, partValue (some (-1, ti))] } } := I4.kept (t' := s4.toks) fun b ob q => Heap.get?_push_of_some _ q
    refine tail_any (T := "str") (ops := [.str z t, .ref s4.heap.objs.size]) (typeIs_str _ _ _) F.slot_str_getitem.lookup ?_ (by with_unfolding_all rfl)
    refine wpAny_getItem_str_slice (l := none) (u := none) (st := some (-1, ti)) ⟨_, Heap.get?_push_size _ rfl, rfl, rfl⟩ rfl ?_
    show Made.post (if ((-1 : Int) == 1 && (slicePicked z none none (some (-1, ti))).length == z.length) = true then Made.val (.str z t) else Made.str ⟨((slicePicked z none none (some (-1, ti))).filterMap (z.cps[·]?)).toArray⟩) (EP X pins σ Q) _
    rw [if_neg (by simp), picked_rev]
    refine ⟨?_, .str (revS z), G4, I5.tok _, ⟨_, rfl⟩, q⟩
    show z.cps.toList.reverse.toArray.size ≤ _
    have : z.cps.size ≤ sizeLine := hz
    simpa using this
def gRevS (g : GE) : GE := fun c => match g c with
  | some (.str z) => if z.length ≤ sizeLine then some (.str (revS z)) else none
  | _ => none
theorem vt_revS {te : TE} {g : GE} (h : VT K W0 b' te g) : VT K W0 b (tRevS te) (gRevS g) := by
  intro W σ c d Q k u s e q
  unfold gRevS at e
  split at e
  · rename_i z hd
    split at e
    · rename_i hz
      cases e
      refine h W σ c _ _ k u s hd fun W1 v1 k1 g1 d1 => ?_
      cases d1
      exact ⟨z, rfl, hz, q W1 _ k1 g1 (.str _)⟩
    · cases e
  · cases e
end
end VL
end

section
/-! VU: texts of plain letters: split, join, numbers. -/
namespace VL
open PySem PySem.Spec PyProof.Rows L2
abbrev Tx := List Lt
def tn (x : Tx) : List Nat := x.map Fin.val
def toLt (n : Nat) : Lt := Fin.ofNat 128 n
theorem toLt_val {n : Nat} (h : n < 128) : (toLt n).val = n := Nat.mod_eq_of_lt h
theorem tn_toLt {l : List Nat} (h : ∀ c ∈ l, c < 128) : tn (l.map toLt) = l := by
  unfold tn
  rw [List.map_map]
  exact (List.map_congr_left fun c hc => toLt_val (h c hc)).trans (List.map_id' l)
theorem tn_inj {x y : Tx} (h : tn x = tn y) : x = y := by
  induction x generalizing y with
  | nil => cases y with
    | nil => rfl
    | cons a y => cases h
  | cons a x ih => cases y with
    | nil => cases h
    | cons b y =>
      injection h with h1 h2
      rw [Fin.ext h1, ih h2]
theorem tn_len (x : Tx) : (tn x).length = x.length := List.length_map ..
theorem tn_app (x y : Tx) : tn (x ++ y) = tn x ++ tn y := List.map_append ..
theorem tn_small (x : Tx) : ∀ c ∈ tn x, c < 128 := by
  intro c hc
  obtain ⟨a, _, rfl⟩ := List.mem_map.mp hc
  exact a.isLt
theorem tn_mem {c : Lt} {x : Tx} : c.val ∈ tn x ↔ c ∈ x := by
  constructor
  · intro h
    obtain ⟨a, h1, h2⟩ := List.mem_map.mp h
    rw [← Fin.ext h2]; exact h1
  · exact fun h => List.mem_map.mpr ⟨c, h, rfl⟩
def joinT (s : Tx) : List Tx → Tx
  | [] => []
  | [p] => p
  | p :: q :: r => p ++ (s ++ joinT s (q :: r))
theorem tn_join (s : Tx) : ∀ ys : List Tx, tn (joinT s ys) = TL.joinL (tn s) (ys.map tn)
  | [] => rfl
  | [p] => rfl
  | p :: q :: r => by
    show tn (p ++ (s ++ joinT s (q :: r))) = tn p ++ (tn s ++ TL.joinL (tn s) ((q :: r).map tn))
    rw [tn_app, tn_app, tn_join s (q :: r)]
theorem joinT_cons (s p : Tx) {ys : List Tx} (h : ys ≠ []) : joinT s (p :: ys) = p ++ s ++ joinT s ys := by
  cases ys with
  | nil => exact absurd rfl h
  | cons q r => rw [List.append_assoc]; rfl
theorem joinT_app (s : Tx) : ∀ {xs ys : List Tx}, xs ≠ [] → ys ≠ [] → joinT s (xs ++ ys) = joinT s xs ++ s ++ joinT s ys
  | [], _, h, _ => absurd rfl h
  | [p], ys, _, h => joinT_cons s p h
  | p :: q :: r, ys, _, h => by
    rw [List.cons_append, joinT_cons s p (by simp), joinT_app s (xs := q :: r) (by simp) h, joinT_cons s p (ys := q :: r) (by simp)]
    simp
theorem joinT_mem {s p : Tx} {c : Lt} : ∀ {ys : List Tx}, p ∈ ys → c ∈ p → c ∈ joinT s ys
  | [q], hp, hc => by simp at hp; rw [← hp]; exact hc
  | q :: r :: t, hp, hc => by
    rw [joinT_cons s q (by simp)]
    rcases List.mem_cons.mp hp with h | h
    · rw [← h]; simp [hc]
    · have := joinT_mem (s := s) h hc
      simp [this]
theorem joinT_of {s : Tx} {c : Lt} : ∀ {ys : List Tx}, c ∈ joinT s ys → c ∈ s ∨ ∃ p ∈ ys, c ∈ p
  | [], h => by cases h
  | [q], h => .inr ⟨q, by simp, h⟩
  | q :: r :: t, h => by
    rw [joinT_cons s q (by simp), List.mem_append, List.mem_append] at h
    rcases h with (h | h) | h
    · exact .inr ⟨q, by simp, h⟩
    · exact .inl h
    · rcases joinT_of h with h | ⟨p, h1, h2⟩
      · exact .inl h
      · exact .inr ⟨p, List.mem_cons_of_mem _ h1, h2⟩
theorem joinT_len (s : Tx) : ∀ ys : List Tx, (joinT s ys).length ≤ (ys.map List.length).sum + ys.length * s.length
  | [] => by simp [joinT]
  | [p] => by simp [joinT]
  | p :: q :: r => by
    have := joinT_len s (q :: r)
    rw [joinT_cons s p (by simp)]
    simp only [List.length_append, List.map_cons, List.sum_cons, List.length_cons, Nat.add_mul, Nat.one_mul] at this ⊢
    omega
theorem joinT_len2 (s : Tx) : ∀ {ys : List Tx}, ys ≠ [] → (ys.map List.length).sum + ys.length * s.length = (joinT s ys).length + s.length
  | [], h => absurd rfl h
  | [p], _ => by simp [joinT]
  | p :: q :: r, _ => by
    have := joinT_len2 s (ys := q :: r) (by simp)
    rw [joinT_cons s p (by simp)]
    simp only [List.length_append, List.map_cons, List.sum_cons, List.length_cons, Nat.add_mul, Nat.one_mul] at this ⊢
    omega
theorem dJoin_sep (s : Tx) (ys : List Tx) (h : (ys.map List.length).sum + ys.length * s.length ≤ 16777216) : dJoin (alD s) (.lst (ys.map alD)) = some (alD (joinT s ys)) := by
  show (match strsOf (ys.map alD) with | some zs => if (zs.map Str.length).sum + zs.length * Str.length ⟨(s.map Fin.val).toArray⟩ ≤ 16777216 then some (D.str (Txt.join ⟨(s.map Fin.val).toArray⟩ zs)) else none | none => none) = _
  rw [strs_al]
  have e : ((ys.map fun x => (⟨(x.map Fin.val).toArray⟩ : Str)).map Str.length).sum = (ys.map List.length).sum := by
    rw [List.map_map]
    congr 1
    apply List.map_congr_left
    intro x _
    show (x.map Fin.val).toArray.size = _
    simp
  have e2 : Str.length ⟨(s.map Fin.val).toArray⟩ = s.length := by show (s.map Fin.val).toArray.size = _; simp
  have e3 : (ys.map fun x => (⟨(x.map Fin.val).toArray⟩ : Str)) = (ys.map tn).map SX.S := by rw [List.map_map]; rfl
  show (if ((ys.map fun x => (⟨(x.map Fin.val).toArray⟩ : Str)).map Str.length).sum + (ys.map fun x => (⟨(x.map Fin.val).toArray⟩ : Str)).length * Str.length ⟨(s.map Fin.val).toArray⟩ ≤ 16777216 then some (D.str (Txt.join (SX.S (tn s)) (ys.map fun x => (⟨(x.map Fin.val).toArray⟩ : Str)))) else none) = _
  rw [e, e2, List.length_map, if_pos h, e3, SX.join_S, ← tn_join]
  rfl
/-! split -/
def sp (s x : Tx) : List Tx := (TL.spl (tn s) 0 [] (tn x)).map (List.map toLt)
theorem mem_joinL {S : List Nat} {c : Nat} {p : List Nat} : ∀ {ps : List (List Nat)}, p ∈ ps → c ∈ p → c ∈ TL.joinL S ps
  | [q], hp, hc => by simp at hp; rw [← hp]; exact hc
  | q :: r :: t, hp, hc => by
    show c ∈ q ++ (S ++ TL.joinL S (r :: t))
    rcases List.mem_cons.mp hp with h | h
    · rw [← h]; simp [hc]
    · have := mem_joinL (S := S) h hc
      simp [this]
theorem tn_256 (s : Tx) : (tn s).all (· < 256) = true := by
  rw [List.all_eq_true]
  intro c hc
  have := tn_small s c hc
  exact decide_eq_true (by omega)
theorem spl_joined {s x : Tx} (hs : s ≠ []) : TL.joinL (tn s) (TL.spl (tn s) 0 [] (tn x)) = tn x := by
  have hs' : tn s ≠ [] := by intro h; exact hs (List.map_eq_nil_iff.mp h)
  have h1 := StrLaws.join_split (SX.S (tn x)) (SX.S (tn s))
  rw [SX.split_S hs' (tn_256 s), ← TL.join_eq, SX.join_S] at h1
  exact SX.S_inj h1
theorem spl_small {s x : Tx} (hs : s ≠ []) : ∀ p ∈ TL.spl (tn s) 0 [] (tn x), ∀ c ∈ p, c < 128 := by
  intro p hp c hc
  have := mem_joinL (S := tn s) hp hc
  rw [spl_joined hs] at this
  exact tn_small x c this
theorem sp_tn {s x : Tx} (hs : s ≠ []) : (sp s x).map tn = TL.spl (tn s) 0 [] (tn x) := by
  unfold sp
  rw [List.map_map]
  exact (List.map_congr_left fun p hp => tn_toLt (spl_small hs p hp)).trans (List.map_id' _)
theorem split_sp {s x : Tx} (hs : s ≠ []) : Txt.split (SX.S (tn x)) (SX.S (tn s)) = (sp s x).map fun p => SX.S (tn p) := by
  have hs' : tn s ≠ [] := by intro h; exact hs (List.map_eq_nil_iff.mp h)
  rw [SX.split_S hs' (tn_256 s), ← sp_tn hs, List.map_map]
  rfl
theorem sp_join {s x : Tx} (hs : s ≠ []) : joinT s (sp s x) = x := by
  refine tn_inj ?_
  rw [tn_join, sp_tn hs, spl_joined hs]
theorem sp_ne {s x : Tx} (hs : s ≠ []) : sp s x ≠ [] := by
  intro h
  have h1 := PyProof.Rows.split_pos (SX.S (tn x)) (SX.S (tn s))
  rw [split_sp hs, h] at h1
  simp at h1
theorem sp_free {c : Lt} {x : Tx} : ∀ p ∈ sp [c] x, c ∉ p := by
  intro p hp hc
  have h1 := StrLaws.split_free (SX.S (tn x)) c.val (SX.S (tn p)) (by
    show SX.S (tn p) ∈ Txt.split (SX.S (tn x)) (SX.S (tn [c]))
    rw [split_sp (by simp)]
    exact List.mem_map.mpr ⟨p, hp, rfl⟩)
  exact h1 (by show c.val ∈ (tn p).toArray.toList; simpa using tn_mem.mpr hc)
theorem sp_back {c : Lt} {ws : List Tx} (h0 : ws ≠ []) (h : ∀ w ∈ ws, c ∉ w) : sp [c] (joinT [c] ws) = ws := by
  have h1 : (sp [c] (joinT [c] ws)).map tn = ws.map tn := by
    rw [sp_tn (by simp), tn_join]
    exact TL.spl_join (s := c.val) (S := []) (by simpa using h0) (by
      intro p hp hc
      obtain ⟨w, hw, rfl⟩ := List.mem_map.mp hp
      exact h w hw (tn_mem.mp hc))
  exact (List.map_inj_right fun x y h => tn_inj h).mp h1
theorem sp_len {s x : Tx} (hs : s ≠ []) : (sp s x).length ≤ x.length + 1 := by
  have h := joinT_len2 s (ys := sp s x) (sp_ne hs)
  rw [sp_join hs] at h
  have h2 : 1 ≤ s.length := List.length_pos_iff.mpr hs
  have h3 : (sp s x).length * 1 ≤ (sp s x).length * s.length := Nat.mul_le_mul_left _ h2
  by_cases h4 : (sp s x).length ≤ 1
  · omega
  · obtain ⟨k, hk⟩ : ∃ k, (sp s x).length = k + 1 := ⟨(sp s x).length - 1, by omega⟩
    rw [hk, Nat.add_mul, Nat.one_mul] at h
    have h5 : k * 1 ≤ k * s.length := Nat.mul_le_mul_left _ h2
    omega
theorem le_sumL {p : Tx} : ∀ {ys : List Tx}, p ∈ ys → p.length ≤ (ys.map List.length).sum
  | q :: r, h => by
    rw [List.map_cons, List.sum_cons]
    rcases List.mem_cons.mp h with h | h
    · rw [h]; omega
    · have := le_sumL h
      omega
theorem sp_short {s x : Tx} (hs : s ≠ []) : ∀ p ∈ sp s x, p.length ≤ x.length := by
  intro p hp
  have h := joinT_len2 s (ys := sp s x) (sp_ne hs)
  rw [sp_join hs] at h
  have h1 : p.length ≤ ((sp s x).map List.length).sum := le_sumL hp
  obtain ⟨k, hk⟩ : ∃ k, (sp s x).length = k + 1 := ⟨(sp s x).length - 1, by have := List.length_pos_iff.mpr (sp_ne (s := s) (x := x) hs); omega⟩
  rw [hk, Nat.add_mul, Nat.one_mul] at h
  omega
theorem e_split {c : Env} {ga gb : GE} {x s : Tx} (h1 : ga c = some (alD x)) (h2 : gb c = some (alD s)) (hs : s ≠ []) (hl : x.length + 2 ≤ sizeLine) : gSplit ga gb c = some ((sp s x).map alD) := by
  have e1 : (SX.S (tn x)).length = x.length := by rw [SX.S_len, tn_len]
  have e2 : ((SX.S (tn s)).length == 0) = false := by
    rw [SX.S_len, tn_len]
    have := List.length_pos_iff.mpr hs
    simp; exact hs
  unfold gSplit
  rw [h1, h2]
  show (if ((SX.S (tn s)).length == 0) = false ∧ (SX.S (tn x)).length + 2 ≤ sizeLine then some ((Txt.split (SX.S (tn x)) (SX.S (tn s))).map D.str) else none) = _
  rw [if_pos ⟨e2, by rw [e1]; exact hl⟩, split_sp hs, List.map_map]
  rfl
/-- the text of an arrow between blanks -/
def arrow : Tx := [32, 45, 62, 32]
theorem pre_second {s t : Nat} {S p : List Nat} (h : p[1]? ≠ some t) : TL.pre (s :: t :: S) p = false := by
  unfold TL.pre
  rw [Bool.eq_false_iff]
  intro e
  have e2 := eq_of_beq e
  apply h
  have e3 := congrArg (fun l : List Nat => l[1]?) e2
  simp only [List.getElem?_take] at e3
  rw [if_pos (by simp)] at e3
  rw [e3]; rfl
theorem sp_arrow {a b : Tx} (ha : (45 : Lt) ∉ a) (hb : (45 : Lt) ∉ b) : sp arrow (a ++ arrow ++ b) = [a, b] := by
  have h1 : (sp arrow (a ++ arrow ++ b)).map tn = [a, b].map tn := by
    rw [sp_tn (by decide), tn_app, tn_app, List.append_assoc]
    have na : ∀ c ∈ tn a, c ≠ 45 := fun c hc e => ha (tn_mem.mp (by rw [e] at hc; exact hc))
    have nb : ∀ c ∈ tn b, c ≠ 45 := fun c hc e => hb (tn_mem.mp (by rw [e] at hc; exact hc))
    rw [TL.spl_part (by decide) (fun i hi => ?_)]
    · rw [TL.spl_last (fun i hi => ?_)]
      · rfl
      · show TL.pre (32 :: 45 :: [62, 32]) _ = false
        refine pre_second ?_
        rw [List.getElem?_drop]
        intro e
        exact nb 45 (List.mem_of_getElem? e) rfl
    · show TL.pre (32 :: 45 :: [62, 32]) _ = false
      refine pre_second ?_
      rw [List.getElem?_drop]
      by_cases h : i + 1 < (tn a).length
      · rw [List.getElem?_append_left h]
        intro e
        exact na 45 (List.mem_of_getElem? e) rfl
      · rw [List.getElem?_append_right (by omega), show i + 1 - (tn a).length = 0 by omega]
        show some 32 ≠ some 45
        simp
  exact (List.map_inj_right fun x y h => tn_inj h).mp h1
/-! numbers -/
def decT (n : Nat) : Tx := (TL.numL n).map toLt
theorem numL_small (n : Nat) : ∀ c ∈ TL.numL n, c < 128 := fun c hc => by have := TL.numL_digits n c hc; omega
theorem tn_dec (n : Nat) : tn (decT n) = TL.numL n := tn_toLt (numL_small n)
theorem dec_ne (n : Nat) : decT n ≠ [] := fun h => TL.numL_ne n (List.map_eq_nil_iff.mp h)
def isDig (c : Lt) : Bool := decide (48 ≤ c.val) && decide (c.val ≤ 57)
theorem dec_dig (n : Nat) : ∀ c ∈ decT n, isDig c = true := by
  intro c hc
  have := TL.numL_digits n c.val (by rw [← tn_dec]; exact tn_mem.mpr hc)
  unfold isDig
  rw [decide_eq_true this.1, decide_eq_true this.2]
  rfl
theorem dec_inj {m n : Nat} (h : decT m = decT n) : m = n := TL.numL_inj (by rw [← tn_dec, ← tn_dec, h])
theorem dec_len {n k : Nat} (hk : 0 < k) (h : n < 10 ^ k) : (decT n).length ≤ k := by
  have := TL.numL_len hk h
  rw [← tn_dec, tn_len] at this
  exact this
def valT (w : Tx) : Nat := NumText.digitsVal (tn w)
theorem val_dec (n : Nat) : valT (decT n) = n := by
  unfold valT
  rw [tn_dec, TL.numL_val]
theorem log_lt {n k : Nat} (h : n < 2 ^ k) (hk : 0 < k) : n.log2 < k := by
  by_cases h0 : n = 0
  · subst h0
    show Nat.log2 0 < k
    simpa using hk
  · exact (Nat.log2_lt h0).mpr h
theorem str_num (n : Nat) (h : n < 2 ^ 100) : fStr [.int (n : Nat)] = some (alD (decT n)) := by
  have h1 : ((n : Nat) : Int).natAbs.log2 < 1920 := by
    have := log_lt (n := n) (k := 100) h (by decide)
    show Nat.log2 (Int.natAbs (n : Int)) < 1920
    rw [Int.natAbs_natCast]
    omega
  show (if ((n : Nat) : Int).natAbs.log2 < 1920 then some (D.str (Str.ofString (toString ((n : Nat) : Int)))) else none) = _
  rw [if_pos h1, SX.num_S, ← tn_dec]
  rfl
theorem int_txt {w : Tx} (h : ∀ c ∈ w, isDig c = true) (h0 : w ≠ []) (hl : w.length ≤ 600) : fIntT [alD w] = some (.int (valT w : Nat)) := by
  show (if (SX.S (tn w)).length ≤ 640 then (PySem.intText? (SX.S (tn w))).map D.int else none) = _
  rw [if_pos (by rw [SX.S_len, tn_len]; omega), SX.int_S ?_ (by intro h; exact h0 (List.map_eq_nil_iff.mp h)) (by rw [tn_len]; omega)]
  · rfl
  · rw [List.all_eq_true]
    intro c hc
    obtain ⟨a, h1, rfl⟩ := List.mem_map.mp hc
    have := h a h1
    exact this
theorem dv_snoc (l : List Nat) (c : Nat) : NumText.digitsVal (l ++ [c]) = NumText.digitsVal l * 10 + (c - 48) := by
  unfold NumText.digitsVal
  rw [List.foldl_append]
  rfl
theorem fold_ge : ∀ (l : List Nat) (a : Nat), a ≤ l.foldl (fun acc c => acc * 10 + (c - 48)) a
  | [], a => Nat.le_refl _
  | c :: l, a => by
    rw [List.foldl_cons]
    have := fold_ge l (a * 10 + (c - 48))
    omega
theorem numL_back (l : List Nat) (h : NumText.AllDigits l) (h0 : l ≠ []) (h1 : l.length = 1 ∨ l.head? ≠ some 48) : TL.numL (NumText.digitsVal l) = l := by
  obtain ⟨n, hn⟩ : ∃ n, l.length = n := ⟨_, rfl⟩
  induction n generalizing l with
  | zero => exact absurd (List.length_eq_zero_iff.mp hn) h0
  | succ n ih =>
    obtain ⟨l', c, rfl⟩ : ∃ l' c, l = l' ++ [c] := ⟨l.dropLast, l.getLast h0, (List.dropLast_concat_getLast h0).symm⟩
    have hc := h c (by simp)
    rw [dv_snoc]
    cases l' with
    | nil =>
      have : NumText.digitsVal [] * 10 + (c - 48) = c - 48 := by show 0 * 10 + (c - 48) = _; omega
      rw [this, TL.numL_lt (by omega)]
      show [48 + (c - 48)] = [c]
      congr 1
      omega
    | cons d t =>
      have hhd : d ≠ 48 := by
        rcases h1 with h1 | h1
        · simp at h1
        · intro e; exact h1 (by rw [e]; rfl)
      have hd := h d (by simp)
      have hih := ih (d :: t) (fun x hx => h x (List.mem_append_left _ hx)) (by simp) (.inr (by simpa using hhd)) (by simpa using hn)
      have hpos : 1 ≤ NumText.digitsVal (d :: t) := by
        show 1 ≤ t.foldl (fun acc c => acc * 10 + (c - 48)) (0 * 10 + (d - 48))
        have := fold_ge t (0 * 10 + (d - 48))
        omega
      generalize NumText.digitsVal (d :: t) = m at hih hpos
      rw [TL.numL_step (by omega), show (m * 10 + (c - 48)) / 10 = m by omega, show (m * 10 + (c - 48)) % 10 = c - 48 by omega, hih]
      congr 2
      omega
theorem dec_back {w : Tx} (h : ∀ c ∈ w, isDig c = true) (h0 : w ≠ []) (h1 : w.length = 1 ∨ w.head? ≠ some 48) : decT (valT w) = w := by
  refine tn_inj ?_
  rw [tn_dec]
  refine numL_back _ ?_ (by intro h; exact h0 (List.map_eq_nil_iff.mp h)) ?_
  · intro c hc
    obtain ⟨a, h2, rfl⟩ := List.mem_map.mp hc
    have := h a h2
    unfold isDig at this
    rw [Bool.and_eq_true, decide_eq_true_eq, decide_eq_true_eq] at this
    exact this
  · rcases h1 with h1 | h1
    · exact .inl (by rw [tn_len]; exact h1)
    · refine .inr fun h => h1 ?_
      unfold tn at h
      rw [List.head?_map] at h
      obtain ⟨a, h3, h4⟩ := Option.map_eq_some_iff.mp h
      rw [h3]
      congr 1
      exact Fin.ext h4
/-- no number but 0 begins with 0 -/
theorem dec_head (n : Nat) : (decT n).length = 1 ∨ (decT n).head? ≠ some 48 := by
  by_cases h : n < 10
  · left
    rw [← tn_len, tn_dec, TL.numL_lt h]
    rfl
  · right
    intro hh
    have key : ∀ m, 0 < m → (TL.numL m).head? ≠ some 48 := by
      intro m
      induction m using Nat.strongRecOn with
      | _ m ih =>
        intro hm
        by_cases h : m < 10
        · rw [TL.numL_lt h]
          simp; omega
        · rw [TL.numL_step (by omega)]
          have := ih (m / 10) (by omega) (by omega)
          have hne := TL.numL_ne (m / 10)
          cases e : TL.numL (m / 10) with
          | nil => exact absurd e hne
          | cons a b => rw [e] at this; simpa using this
    refine key n (by omega) ?_
    rw [← tn_dec]
    unfold tn
    rw [List.head?_map, hh]
    rfl
/-! one letter -/
def isLow (c : Lt) : Bool := decide (97 ≤ c.val) && decide (c.val ≤ 122)
theorem in_low (c : Lt) : dIn (Sy.l c).D (.str "abcdefghijklmnopqrstuvwxyz") = some (.bl (isLow c)) := by
  rw [every_eq]
  show some (D.bl (decide (c.val ∈ (every26.map Fin.val).toArray.toList))) = _
  congr 2
  revert c
  decide +kernel
theorem notIn_low (c : Lt) : dNotIn (Sy.l c).D (.str "abcdefghijklmnopqrstuvwxyz") = some (.bl (!isLow c)) := by
  have := in_low c
  unfold dIn at this
  unfold dNotIn
  cases h : dInB (Sy.l c).D (.str "abcdefghijklmnopqrstuvwxyz") with
  | none => rw [h] at this; cases this
  | some b => rw [h] at this; cases this; rfl
theorem notIn_dig (c : Lt) : dNotIn (Sy.l c).D (.str "0123456789") = some (.bl (!isDig c)) := by
  have e : D.str "0123456789" = alD [48, 49, 50, 51, 52, 53, 54, 55, 56, 57] := rfl
  rw [e]
  show some (D.bl (!decide (c.val ∈ (([48, 49, 50, 51, 52, 53, 54, 55, 56, 57] : Tx).map Fin.val).toArray.toList))) = _
  congr 3
  revert c
  decide +kernel
theorem in_al (c : Lt) (al : Tx) : dIn (Sy.l c).D (alD al) = some (.bl (decide (c ∈ al))) := by
  show some (D.bl (decide (c.val ∈ (tn al).toArray.toList))) = _
  congr 2
  exact decide_eq_decide.mpr (by simpa using tn_mem)
theorem ge_one (a b : Lt) : dGe (Sy.l a).D (Sy.l b).D = some (.bl (decide (b.val ≤ a.val))) := by
  show some (D.bl (!decide ([a.val] < [b.val]))) = _
  congr 2
  by_cases h : a.val < b.val
  · rw [decide_eq_true (by rw [List.cons_lt_cons_iff]; exact .inl h), decide_eq_false (by omega)]; rfl
  · rw [decide_eq_false (by rw [List.cons_lt_cons_iff]; intro q; rcases q with q | ⟨_, q⟩; exact h q; exact absurd q (by simp)), decide_eq_true (by omega)]; rfl
/-! texts are told apart -/
def Emb.tx : Emb alD 0 where
  p x := .str (SX.S (tn x))
  hp _ := rfl
  ev x y := by
    simp only [PyData.eqv]
    rw [SX.S_beq_eq]
    exact decide_eq_decide.mpr ⟨fun h => tn_inj h, fun h => by rw [h]⟩
  ly x := by
    simp only [PyData.canLay0]
    unfold PyData.strOk
    have := tn_small x
    simp
    intro c hc
    have := this c hc
    omega
  dp _ := by simp [PyData.depth]
end VL
end

section
/-! VM: constructors that may raise, a try whose suite meets several classes. -/
namespace VL
open PySem PySem.Spec PyProof.Rows L2
section
variable {K : KW} {E : XK} {Ex : L2.St → XK} {W0 : Wd}
/-! ### constructors that may raise -/
inductive IRes where
  | made (ns : List Str) (es : List D)
  | exn (C : Addr) (ns : List Str) (ds : List D)
def spIR (K : KW) (C : Addr) (m : List D → Option IRes) : Sp := fun vs H Q E => ∃ (x dx : Addr) (us : List V) (F : Hp) (ds : List D) (r : IRes), vs = .ref x :: us ∧ H x = some (.ins C dx []) ∧ F x = none ∧ Same F H ∧ DenL K F us ds ∧ m ds = some r ∧
  match r with
  | .made ns es => ∀ H' F' fs, (∀ a o, a ≠ x → H a = some o → H' a = some o) → Same F F' → F' x = none → Same F' H' → (∀ a o, H a = some o → F' a = F a) → H' x = some (.ins C dx fs) → fs.map (·.1) = ns → DenL K F' (fs.map (·.2)) es → Q .non H'
  | .exn C' ns es => ∀ H' F' dx' fs, (∀ a o, a ≠ x → H a = some o → H' a = some o) → Same F F' → Same F' H' → (∀ a o, a ≠ x → H a = some o → F' a = F a) → (dx' = x ∨ H dx' = none) → H' dx' = some (.xd fs) → fs.map (·.1) = ns → DenL K F' (fs.map (·.2)) es → E (.ref C') (some dx') H'
def gMakeR (C : Addr) (m : List D → Option IRes) (gs : GA) : GR := fun c => match gs c with
  | some ds => match m ds with
    | some (.made ns es) => some (.val (.ins C ns es))
    | some (.exn C' ns es) => some (.exn C' ns es)
    | none => none
  | none => none
theorem make_res {C : Addr} {m : List D → Option IRes} {W1 : Wd} {vs : List V} {ds : List D} {Q : VK} {E' : XK} (k1 : WOk W1) (d1 : DenL K W1.F vs ds)
    (q : XP K W1 E' true Q (match m ds with | some (.made ns es) => some (Res.val (.ins C ns es)) | some (.exn C' ns es) => some (.exn C' ns es) | none => none)) :
    ∀ x dx, W1.H x = none → W1.H dx = none → dx ≠ x → spIR K C m (.ref x :: vs) (upd (upd W1.H dx (.own x)) x (.ins C dx [])) (fun v H2 => v = .non ∧ Q (.ref x) H2) E' := by
  intro x dx hx hdx hne
  have Fx : W1.F x = none := k1.fh.free hx
  have nex : ∀ a o, W1.F a = some o → a ≠ x := fun a o z => ne_of_none z Fx
  have nedx : ∀ a o, W1.F a = some o → a ≠ dx := fun a o z => ne_of_none z (k1.fh.free hdx)
  have sF : Same W1.F (upd (upd W1.H dx (.own x)) x (.ins C dx [])) := fun a o z => by
    rw [upd_ne (nex a o z), upd_ne (nedx a o z)]; exact k1.fh a o z
  cases hm : m ds with
  | none => rw [hm] at q; exact q.elim
  | some r =>
    rw [hm] at q
    cases r with
    | made ns es =>
      refine ⟨x, dx, vs, W1.F, ds, .made ns es, rfl, upd_same, Fx, sF, d1, hm, fun H' F' fs a1 a2 a3 a4 a5 a6 a7 a8 => ⟨rfl, ?_⟩⟩
      have hH : Same W1.H H' := fun a o z => a1 a o (ne_of_none z hx) (by rw [upd_ne (ne_of_none z hx), upd_ne (ne_of_none z hdx)]; exact z)
      have F2 : Same W1.F (upd F' x (.ins C dx fs)) := a2.trans (same_upd a3)
      have F3 : Same (upd F' x (.ins C dx fs)) H' := fun a o z => by
        by_cases ha : a = x
        · subst ha; rw [upd_same] at z; cases z; exact a6
        · rw [upd_ne ha] at z; exact a4 a o z
      have F4 : ∀ a o, W1.H a = some o → (upd F' x (.ins C dx fs)) a = W1.F a := fun a o z => by
        have n1 := ne_of_none z hx
        rw [upd_ne n1]
        exact a5 a o (by rw [upd_ne n1, upd_ne (ne_of_none z hdx)]; exact z)
      obtain ⟨k2, g2, f2⟩ := aft_ok (b := true) k1 hH F2 F3 F4
      exact q (W1.aft true H' (upd F' x (.ins C dx fs))) _ k2 g2 (Den.up (.ins upd_same a7 (a8.up (same_upd a3))) f2)
    | exn C' ns es =>
      refine ⟨x, dx, vs, W1.F, ds, .exn C' ns es, rfl, upd_same, Fx, sF, d1, hm, fun H' F' dx' fs a1 a2 a3 a4 a5 a6 a7 a8 => ?_⟩
      have hH : Same W1.H H' := fun a o z => a1 a o (ne_of_none z hx) (by rw [upd_ne (ne_of_none z hx), upd_ne (ne_of_none z hdx)]; exact z)
      have F4 : ∀ a o, W1.H a = some o → F' a = W1.F a := fun a o z => by
        have n1 := ne_of_none z hx
        exact a4 a o n1 (by rw [upd_ne n1, upd_ne (ne_of_none z hdx)]; exact z)
      have hdx' : W1.H dx' = none := by
        rcases a5 with h | h
        · rw [h]; exact hx
        · by_cases h1 : dx' = x
          · rw [h1]; exact hx
          · by_cases h2 : dx' = dx
            · rw [h2]; exact hdx
            · rw [upd_ne h1, upd_ne h2] at h; exact h
      obtain ⟨k2, g2, f2⟩ := aft_ok (b := true) k1 hH a2 a3 F4
      exact q (W1.aft true H' F') dx' fs k2 g2 a6 hdx' a7 (a8.up f2)
theorem vtx_make {C : Addr} {m : List D → Option IRes} {ts : TA} {gs : GA} (h : VArg K W0 true ts gs) : VTX K W0 (fun _ => E) true (tMake C (spIR K C m) [] E ts) (gMakeR C m gs) := by
  intro W σ c Q k u s q
  unfold gMakeR at q
  cases e : gs c with
  | none => rw [e] at q; exact q.elim
  | some ds =>
    rw [e] at q
    refine h W σ c ds _ k u s e fun W1 vs k1 g1 d1 => ?_
    rw [List.append_nil]
    exact make_res k1 d1 (xp_gr g1 q)
/-- .. where E is the context's own, told by the cells -/
def tMakeS (C : Addr) (sp : Sp) (Ex : L2.St → XK) (t : TA) : TE := fun σ H Q => t σ H fun vs H1 => ∀ x dx, H1 x = none → H1 dx = none → dx ≠ x →
  sp (.ref x :: vs) (upd (upd H1 dx (.own x)) x (.ins C dx [])) (fun v H2 => v = .non ∧ Q (.ref x) H2) (Ex σ)
theorem vtx_makeS {C : Addr} {m : List D → Option IRes} {ts : TA} {gs : GA} (h : VArg K W0 true ts gs) : VTX K W0 Ex true (tMakeS C (spIR K C m) Ex ts) (gMakeR C m gs) := by
  intro W σ c Q k u s q
  unfold gMakeR at q
  cases e : gs c with
  | none => rw [e] at q; exact q.elim
  | some ds =>
    rw [e] at q
    exact h W σ c ds _ k u s e fun W1 vs k1 g1 d1 => make_res k1 d1 (xp_gr g1 q)
/-- .. that does not raise here -/
def gMakeV (C : Addr) (m : List D → Option IRes) (gs : GA) : GE := fun c => match gs c with
  | some ds => match m ds with
    | some (.made ns es) => some (.ins C ns es)
    | _ => none
  | none => none
theorem vt_makeV {b : Bool} {C : Addr} {m : List D → Option IRes} {ts : TA} {gs : GA} (h : VArg K W0 true ts gs) : VT K W0 b (tMake C (spIR K C m) [] E ts) (gMakeV C m gs) := by
  refine VT.weak ?_
  intro W σ c d Q k u s e q
  refine vtx_make h W σ c Q k u s ?_
  unfold gMakeV at e
  unfold gMakeR
  cases e1 : gs c with
  | none => rw [e1] at e; cases e
  | some ds =>
    rw [e1] at e
    simp only at e ⊢
    cases e2 : m ds with
    | none => rw [e2] at e; cases e
    | some r =>
      rw [e2] at e
      cases r with
      | made ns es => cases e; exact q
      | exn C' ns es => cases e
def iOfR (C : Addr) (n nn : Nat) (g : GS) : List D → Option IRes := fun ds => if ds.length = n then match g (envI C nn ds) with
  | some (Out.nx c) => match (c[0]? : Option (Option Cell)) with
    | some (some (Cell.slf C' ns es)) => if C' = C then some (.made ns es) else none
    | _ => none
  | some (Out.ex C' ns es) => some (.exn C' ns es)
  | _ => none
  else none
theorem iOfR_len {C : Addr} {n nn : Nat} {g : GS} {ds : List D} {r : IRes} (h : iOfR C n nn g ds = some r) : ds.length = n := by
  unfold iOfR at h
  split at h
  · assumption
  · cases h
theorem spIR_len {C : Addr} {m : List D → Option IRes} {n : Nat} (hm : ∀ ds r, m ds = some r → ds.length = n) : ∀ vs H Q E, spIR K C m vs H Q E → vs.length = n + 1 := by
  rintro vs H Q E' ⟨x, dx, us, F, ds, r, rfl, _, _, _, hd, e, _⟩
  rw [List.length_cons, hd.length, hm ds _ e]
theorem run_initR {N : List Str} {C : Addr} {nn : Nat} {ts : TS} {g : GS} {n : Nat} {vs : List V} {H : Hp} {Q : VK} (hN : N.length = nn) (hv : ∀ W0, VS K W0 E ts g)
    (h : spIR K C (iOfR C n nn g) vs H Q E) : ts { nx := fun _ H' => Q .non H', rt := Q } (L2.start N vs) H := by
  obtain ⟨x, dx, us, F, ds, r, rfl, hx, hFx, hF, hd, e, q⟩ := h
  subst hN
  have hlen := hd.length
  have neF : ∀ a o, F a = some o → a ≠ x := fun a o z w => by rw [w, hFx] at z; cases z
  let W0 : Wd := ⟨fun a => if a = x then none else H a, fun b => if b = 2 then some (.own x) else if b = 3 then some (.own dx) else none, F⟩
  have u0 : Up W0 ⟨H, F, F⟩ := ⟨fun a o z => by
    have z' : (if a = x then none else H a) = some o := z
    split at z'
    · cases z'
    · exact z', Same.refl _, fun _ _ _ => rfl⟩
  have s0 : SD K W0 ⟨H, F, F⟩ (L2.start N (V.ref x :: us)) (envI C N.length ds) := by
    have est : L2.start N (V.ref x :: us) = some (V.ref x) :: (us.map some ++ List.replicate (N.length - 1 - us.length) none) := by
      unfold L2.start
      rw [List.map_cons, List.cons_append, List.length_cons]
      congr 3
      omega
    have hok : ∀ (i : Nat) y z, (us.map some ++ List.replicate (N.length - 1 - us.length) none)[i]? = some y → (ds.map (fun d => some (Cell.fz d)) ++ List.replicate (N.length - 1 - ds.length) none)[i]? = some z → CellOk K W0 ⟨H, F, F⟩ y z ∧ ∀ l, ¬ Holds K W0 ⟨H, F, F⟩ y z l := by
      intro i y z h1 h2
      by_cases hi : i < ds.length
      · rw [List.getElem?_append_left (by simpa using hi)] at h2
        rw [List.getElem?_append_left (by simpa [hlen] using hi)] at h1
        simp [hi] at h2
        simp [hlen, hi] at h1
        subst h1 h2
        obtain ⟨v, hv', dv⟩ := hd.get (List.getElem?_eq_getElem hi)
        have : us[i]? = some us[i] := List.getElem?_eq_getElem (by omega)
        rw [this] at hv'; cases hv'
        exact ⟨⟨_, rfl, dv⟩, fun l => noHold_fz⟩
      · rw [List.getElem?_append_right (by simpa using Nat.le_of_not_lt hi), List.getElem?_replicate] at h2
        split at h2
        · cases h2; exact ⟨trivial, fun l => noHold_none⟩
        · cases h2
    rw [est]
    refine ⟨by simp [hlen, envI], fun i y z h1 h2 => ?_, fun i j y z y' z' l h1 h2 h3 h4 h5 h6 => ?_⟩
    · cases i with
      | zero =>
        cases h1; cases h2
        exact ⟨[], rfl, hx, hFx, hFx, if_pos rfl, rfl, .nil⟩
      | succ i => exact (hok i y z h1 h2).1
    · cases i with
      | zero =>
        cases j with
        | zero => rfl
        | succ j => exact ((hok j y' z' h3 h4).2 l h6).elim
      | succ i => exact ((hok i y z h1 h2).2 l h5).elim
  refine hv W0 ⟨H, F, F⟩ _ _ _ ⟨Same.refl _, hF, fun _ _ e _ => e⟩ u0 s0 ?_
  unfold iOfR at e
  split at e
  · cases hg : g (envI C N.length ds) with
    | none => rw [hg] at e; cases e
    | some o =>
      rw [hg] at e
      cases o with
      | nx c =>
        simp only at e
        split at e
        · rename_i C' ns es hc0
          split at e
          · rename_i hC
            cases e
            subst hC
            intro W σ k u f s
            obtain ⟨y, hy, fs, rfl, e1, e2, e3, e4, e5, e6⟩ := s.at hc0
            replace e1 : W.H x = some (.ins _ dx fs) := e1
            replace e3 : W.F x = none := e3
            refine q W.H W.F fs (fun a o ha ho => u.h a o ?_) u.f e3 k.fh (fun a o ho => ?_) e1 e5 e6
            · show (if a = x then none else H a) = some o
              rw [if_neg ha]; exact ho
            · by_cases ha : a = x
              · rw [ha, e3, hFx]
              · exact u.fo a o (by show (if a = x then none else H a) = some o; rw [if_neg ha]; exact ho)
          · cases e
        · cases e
      | ex C' ns es =>
        cases e
        intro W dx' fs k u f a1 a2 a3 a4
        refine q W.H W.F dx' fs (fun a o ha ho => u.h a o ?_) u.f k.fh (fun a o ha ho => u.fo a o ?_) ?_ a1 a3 a4
        · show (if a = x then none else H a) = some o
          rw [if_neg ha]; exact ho
        · show (if a = x then none else H a) = some o
          rw [if_neg ha]; exact ho
        · by_cases h : dx' = x
          · exact .inl h
          · right
            have a2' : (if dx' = x then none else H dx') = none := a2
            rw [if_neg h] at a2'
            exact a2'
      | ret d => cases e
      | bk c => cases e
      | ct c => cases e
      | own t => cases e
  · cases e
/-! ### a suite that meets several classes -/
def gTryM (i : Nat) (Cs : List Addr) (g : GY) (gs : Addr → GS) : GS := fun c => match g c with
  | some (.nx c') => some (.nx c')
  | some (.ret d) => some (.ret d)
  | some (.ex c1 C' ns es) => if C' ∈ Cs ∧ (c1.set i none).all notExc = true then
      match gs C' (c1.set i (some (.exc C' ns es))) with
      | some (.nx c') => if (c'.set i none).all notExc = true then some (.nx (c'.set i none)) else none
      | some (.ret d) => some (.ret d)
      | _ => none
    else none
  | none => none
theorem vs_tryM {i : Nat} {Cs : List Addr} {cV : Value} {tb : WX → TS} {g : GY} {ts : Addr → Value → Option Addr → TS} {gs : Addr → GS} {Wout : WX}
    (hx : ∀ C ∈ Cs, PySem.W.exmOne K (.ref C) cV = some true) (hb : ∀ Wx : WX, VSY K W0 (WE Wx) (tb Wx) g) (hs : ∀ a d C, C ∈ Cs → VS K (excW W0 a d) E (ts a (.ref C) (some d)) (gs C)) :
    VS K W0 E (tTryG K cV i tb ts Wout) (gTryM i Cs g gs) := by
  intro W σ c D k u s q
  refine hb _ W σ c D k u s ?_
  unfold gTryM at q
  cases e : g c with
  | none => rw [e] at q; exact q.elim
  | some o =>
    rw [e] at q
    cases o with
    | nx c' => exact q
    | ret d => exact q
    | ex c1 C' ns es =>
      simp only at q
      by_cases hC : C' ∈ Cs ∧ (c1.set i none).all notExc = true
      · rw [if_pos hC] at q
        obtain ⟨hC, hne⟩ := hC
        intro W2 σ2 dx fs k2 u2 f2 s2 a6 a5 a7 a8
        refine ⟨true, hx C' hC, fun _ a na => ?_, fun z => nomatch z⟩
        have u3 : Up (excW W0 a dx) W2 := ⟨u2.h, u2.f, u2.fo⟩
        have s3 : SD K (excW W0 a dx) W2 (σ2.set i none) (c1.set i none) := sd_excW (W0 := W0) (W0' := excW W0 a dx) rfl rfl rfl (fun _ => rfl) hne (sd_set s2 i none none trivial fun l h => (noHold_none h).elim)
        have s4 : SD K (excW W0 a dx) W2 (σ2.set i (some (.ref a))) (c1.set i (some (.exc C' ns es))) := by
          have z := sd_set s3 i (some (.ref a)) (some (.exc C' ns es)) ⟨fs, rfl, a6, a7, a8⟩ fun l h => (noHold_exc h).elim
          rw [List.set_set, List.set_set] at z
          exact z
        refine hs a dx C' hC W2 _ _ _ k2 u3 s4 ?_
        cases e3 : gs C' (c1.set i (some (.exc C' ns es))) with
        | none => rw [e3] at q; exact q.elim
        | some o =>
          rw [e3] at q
          cases o with
          | nx c' =>
            simp only at q
            by_cases hn' : (c'.set i none).all notExc = true
            · rw [if_pos hn'] at q
              intro W3 σ3 k3 u4 f4 s5
              exact q W3 _ k3 ⟨u4.h, u4.f, u4.fo⟩ (f2.trans f4) (sd_excW (W0 := excW W0 a dx) (W0' := W0) rfl rfl rfl (fun _ => rfl) hn' (sd_set s5 i none none trivial fun l h => (noHold_none h).elim))
            · rw [if_neg hn'] at q; exact q.elim
          | ret d => exact fun W3 v k3 u4 f4 d3 => q W3 v k3 ⟨u4.h, u4.f, u4.fo⟩ (f2.trans f4) d3
          | bk c => exact q.elim
          | ct c => exact q.elim
          | ex C ns es => exact q.elim
          | own t => exact q.elim
      · rw [if_neg hC] at q; exact q.elim
/-- isinstance(e, T): the answers by class -/
def ansB (C : Addr) : List (Addr × Bool) → Bool
  | [] => false
  | (D, r) :: rest => if C = D then r else ansB C rest
def rIsM (K : PySem.W.Frag) (Cs : List Addr) (a : Addr) (cls : Value) (d : Option Addr) : List V → Hp → VK → Prop := fun xs H Q => ∃ D, D ∈ Cs ∧ rIsX K D a cls d xs H Q
theorem call_isM {X : Cx} {a : Addr} {Cs : List Addr} {oe : Obj} {cls : Value} {d : Option Addr} {pn : List (Addr × Obj)} (C : ∀ D ∈ Cs, IsxC X.K D) (hz : Zc cls d oe) (hf : ∃ vs, oe.data = .fields vs) : CallR (X.suite a ((a, oe) :: pn)) (.builtin "isinstance") (rIsM X.K Cs a cls d) := by
  intro pins s σ H xs us Q I r h
  obtain ⟨D, hD, h⟩ := h
  exact call_isX (C D hD) hz hf pins s σ H xs us Q I r h
theorem vt_isM {b : Bool} {i : Nat} {a d C : Addr} {Cs : List Addr} {cv : V} {cw : Value} {ans : Bool} (hC : C ∈ Cs) (hcv : ∀ u, RelV cv u → u = cw) (hk : PySem.W.kitOne K (.ref C) cw = some ans) :
    VT K (excW W0 a d) b (tCB (rIsM K Cs a (.ref C) (some d)) (tCons (tVar i) (tCons (tC cv) tNil))) (gIsX i C ans) := by
  intro W σ c z Q k u s e q
  obtain ⟨x, hx, h⟩ := vt_isX (b := b) (i := i) hcv hk W σ c z Q k u s e q
  exact ⟨x, hx, C, hC, h⟩
def tXfM (Cs : List Addr) (a : Addr) (cls : Value) (d : Option Addr) (f : Str) (te : TE) : TE := fun σ H Q => ∃ D, D ∈ Cs ∧ tXf a cls d D f te σ H Q
theorem pe_xfM {X : Cx} {a : Addr} {Cs : List Addr} {oe : Obj} {cls : Value} {d : Option Addr} {pn : List (Addr × Obj)} {e : Expr} {te : TE} {pos : Pos} {n : Str} (T : ∀ C ∈ Cs, XfC X.K C ∧ PySem.W.findIn X.K (.ref C) n = some none)
    (hz : Zc cls d oe) (hf : ∃ vs, oe.data = .fields vs) (he : PE (X.suite a ((a, oe) :: pn)) e te) (hb : attributeBase e n X.env (eval e X.env) = eval e X.env := by rfl) :
    PE (X.suite a ((a, oe) :: pn)) (.Attribute e n pos) (tXfM Cs a cls d n te) := by
  refine ⟨fun pins s σ H Q I h => ?_⟩
  obtain ⟨C, hC, h⟩ := h
  exact (pe_xf (T C hC).1 (T C hC).2 hz hf he hb).run pins s σ H Q I h
theorem vt_xfM {b : Bool} {i : Nat} {a d C : Addr} {Cs : List Addr} {f : Str} (hC : C ∈ Cs) : VT K (excW W0 a d) b (tXfM Cs a (.ref C) (some d) f (tVar i)) (gXf i C f) := by
  intro W σ c z Q k u s e q
  exact ⟨C, hC, vt_xf W σ c z Q k u s e q⟩
end
/-! ### a constructor in the suite of a try -/
section
variable {X : Cx} {CX : CXT} {k j : Nat} {C f : Addr} {fd : FuncData} {ps : List Str} {x : Str} {sp : Sp} {p pos : Pos} {e : Expr} {es : List Expr} {t : TA}
theorem run_makeS {pins : List (Addr × Obj)} {σ : L2.St} {H : Hp} {s : Shared} {Q : VK} {us : List Value} {vs : List V} {E : XK} (M : Mk X.K C f) (F : FnOk X.prog X.w X.K X.mg X.base CX k f fd ps sp) (hr : Room (k + 1) X.A) (hb : Binds X.K fd ps [])
    (hx : PassesAt CX X σ E) (I : Inv X pins σ H s) (r : Vals vs us)
    (h : ∀ x dx, H x = none → H dx = none → dx ≠ x → sp (.ref x :: vs) (upd (upd H dx (.own x)) x (.ins C dx [])) (fun v H2 => v = .non ∧ Q (.ref x) H2) E) :
    wpAny (model X.prog X.w) X.A (call (.ref C) us) (EP X pins σ Q) X.xe s := by
  have q := h (s.heap.objs.size + 1) s.heap.objs.size (I.hok.fresh (Nat.le_succ _)) (I.hok.fresh (Nat.le_refl _)) (Nat.ne_of_lt (Nat.lt_succ_self _))
  have I2 := Inv.made (C := C) I
  have r2 : Vals (V.ref (s.heap.objs.size + 1) :: vs) (Value.ref (s.heap.objs.size + 1) :: us) := .cons rfl r
  have hl : (Value.ref (s.heap.objs.size + 1) :: us).length = ps.length := by rw [← F.len _ _ _ _ q]; exact r2.length.symm
  have bd := hb _ (Value.ref (s.heap.objs.size + 1) :: us) I2.kIn (by rw [List.append_nil]; exact hl)
  rw [List.append_nil] at bd
  refine wpAny_call (make_map (f := f) I.kIn M.makes M.init (beq_iff_eq.mp M.fn) (codeAny_mono (F.run _ X.stack _ _ ⟨Value.ref (s.heap.objs.size + 1) :: us, []⟩ _ _ _ E (hr.make C us []) (I2.env0.make C us []) bd r2 q) fun r s' q' => ?_))
  cases r with
  | error er => exact hx pins _ _ er s' I2 q'
  | ok fl =>
    cases fl with
    | ret u =>
      obtain ⟨v, H', I3, rv, rfl, q3⟩ := I2.after q'
      exact ⟨rv, ⟨V.ref (s.heap.objs.size + 1), H', I3, rfl, q3⟩⟩
    | next => exact q'.elim
    | brk => exact q'.elim
    | cont => exact q'.elim
theorem pe_msx (c : MakX X.prog X.w X.K X.mg X.base CX k x C sp) (hr : Room j X.A) (hk : k + 1 ≤ j) {E' : L2.St → XK} (hx : ∀ σ, PassesAt CX X σ (E' σ)) (hg : Gl X x) (ha : PA X (e :: es) t)
    (hdb : (x == ("__debug__" : Str)) = false := by decide) (he : starEach (e :: es) X.env = (false, eval e X.env) :: starEach es X.env := by rfl) (hpl : (backTo pos (starEach es X.env)).any (·.1) = false := by rfl) :
    PE X (.Call (.Name x p) (e :: es) [] pos) (tMakeS C sp E' t) := by
  obtain ⟨f, fd, ps, M, F, hm, b⟩ := c.ex
  refine ⟨fun pins s σ H Q I h => ?_⟩
  refine wpAny_Call_Name_kw (ld_glob I hg hm ?_ hdb)
  refine PySem.W.callWith_K (h₀ := X.base) I.ok.mod.kin M.kp (thn (ha.run pos pins s σ H _ I h) fun us s1 ⟨vs, H1, I1, r, q⟩ => ⟨I1.kIn, ?_⟩) he hpl
  exact run_makeS M F (hr.mono hk) b (hx σ) I1 r q
end
end VL
end

section
/-! VT: structures of one's own lists (and dicts): how they are made, looked at, changed. -/
namespace VL
open PySem PySem.Spec PyProof.Rows L2
section
variable {K : KW} {E : XK} {W0 : Wd}
/-! ### a write at an address that a structure holds -/
/-- in G, where it stands there -/
def gUp (G : Hp) (l : Addr) (o : HO) : Hp := match G l with
  | some _ => upd G l o
  | none => G
theorem gUp_ne {G : Hp} {l a : Addr} {o : HO} (h : a ≠ l) : gUp G l o a = G a := by
  unfold gUp
  cases G l with
  | none => rfl
  | some _ => exact upd_ne h
theorem gUp_some {G : Hp} {l : Addr} {o u : HO} (h : G l = some u) : gUp G l o l = some o := by
  unfold gUp
  rw [h]
  exact upd_same
theorem gUp_none {G : Hp} {l : Addr} {o : HO} (h : G l = none) : gUp G l o l = none := by
  unfold gUp
  rw [h]
  exact h
def Wd.wt (W : Wd) (l : Addr) (o : HO) : Wd := ⟨upd W.H l o, gUp W.G l o, W.F⟩
theorem wt_wr {W : Wd} {l : Addr} {o u : HO} (h : W.G l = some u) : W.wt l o = W.wr l o := by
  unfold Wd.wt Wd.wr gUp
  rw [h]
/-- what may stand in the place -/
def likeO (W : Wd) (l : Addr) (o : HO) : Prop := (∃ u, W.G l = some u) ∧ ownO o = true ∨ W.G l = none ∧ ∃ C dx fs, o = .ins C dx fs
/-- the structure of a cell is replaced -/
def setT (c : Env) (i : Nat) (t : T) : Env := match c[i]? with
  | some (some (.tre a _)) => c.set i (some (.tre a t))
  | _ => c
theorem setT_at {c : Env} {i : Nat} {a : Option Nat} {t0 t : T} (h : c[i]? = some (some (.tre a t0))) : setT c i t = c.set i (some (.tre a t)) := by
  unfold setT; rw [h]
theorem wr_tre {W : Wd} {σ : L2.St} {c : Env} {a0 : Option Nat} (k : WOk W) (u : Up W0 W) (s : SD K W0 W σ c) {i : Nat} {v : V} {t t' : T} {as bs : List Addr} {l : Addr} {o : HO} (hσ : σ[i]? = some (some v)) (hc : c[i]? = some (some (.tre a0 t)))
    (ht : TOk K W0 W v t as) (hl : l ∈ as) (ho : likeO W l o) (ht' : TOk K W0 (W.wt l o) v t' bs) (hb : bs.Nodup) (hbs : ∀ a ∈ bs, a ∈ as ∨ ∀ (j : Nat) x y, σ[j]? = some x → c[j]? = some y → ¬ Holds K W0 W x y a) : WOk (W.wt l o) ∧ Up W0 (W.wt l o) ∧ SD K W0 (W.wt l o) σ (c.set i (some (.tre a0 t'))) := by
  obtain ⟨⟨o0, e2, e3⟩, e4, e5⟩ := TOk.there t v as ht l hl
  have neF : ∀ a u, W.F a = some u → a ≠ l := fun a u e z => by rw [z, e4] at e; cases e
  have mv : ∀ (j : Nat) b0 t v as', i ≠ j → σ[j]? = some (some v) → c[j]? = some (some (.tre b0 t)) → TOk K W0 W v t as' → TOk K W0 (W.wt l o) v t as' := by
    intro j b0 t2 v2 as2 hij h1 h2 h3
    refine TOk.move (W := W) (W' := W.wt l o) (W0 := W0) (W0' := W0) (Same.refl _) (fun _ e => e) t2 v2 as2 (fun l' hl' => ?_) h3
    have ne : l' ≠ l := fun z => by
      subst z
      exact hij (s.one i j _ _ _ _ l' hσ hc h1 h2 (.inr ⟨_, t, v, as, rfl, rfl, ht, hl⟩) (.inr ⟨_, t2, v2, as2, rfl, rfl, h3, hl'⟩))
    exact ⟨upd_ne ne, gUp_ne ne, rfl⟩
  have nl : ∀ (j : Nat) x y, i ≠ j → σ[j]? = some x → c[j]? = some y → ∀ l', x = some (.ref l') → cobj y = true → l' ≠ l := fun j x y hij h1 h2 l' a b z => by
    subst z
    exact hij (s.one i j _ _ _ _ l' hσ hc h1 h2 (.inr ⟨_, t, v, as, rfl, rfl, ht, hl⟩) (.inl ⟨a, b⟩))
  have ok : ∀ (j : Nat) x y, σ[j]? = some x → (c.set i (some (.tre a0 t')))[j]? = some y → CellOk K W0 (W.wt l o) x y := by
    intro j x y h1 h2
    by_cases hij : i = j
    · subst hij
      rw [List.getElem?_set_self (List.getElem?_eq_some_iff.mp hc).1] at h2
      cases h2
      rw [hσ] at h1; cases h1
      obtain ⟨v', _, ev, _, _, anc⟩ := s.ok i _ _ hσ hc
      cases ev
      exact ⟨v, bs, rfl, ht', hb, anc⟩
    · rw [List.getElem?_set_ne hij] at h2
      have q := s.ok j x y h1 h2
      cases y with
      | none => trivial
      | some cl =>
        cases cl with
        | fz d => exact q
        | own es' =>
          obtain ⟨l2, vs2, a1, a2, a3, a4, a5, a6⟩ := q
          have ne := nl j _ _ hij h1 h2 l2 a1 rfl
          exact ⟨l2, vs2, a1, (upd_ne ne).trans a2, (gUp_ne ne).trans a3, a4, a5, a6⟩
        | exc C ns es' =>
          obtain ⟨fs, a1, a2, a3, a4⟩ := q
          refine ⟨fs, a1, (upd_ne fun z => ?_).trans a2, a3, a4⟩
          rw [z, e2] at a2; cases a2
          rcases e3 with ⟨_, e3⟩ | ⟨_, _, _, _, e3⟩
          · cases e3
          · cases e3
        | slf C ns es' =>
          obtain ⟨fs, a1, a2, a3, a4, a5, a6, a7⟩ := q
          have ne := nl j _ _ hij h1 h2 W0.sa a1 rfl
          exact ⟨fs, a1, (upd_ne ne).trans a2, (gUp_ne ne).trans a3, a4, a5, a6, a7⟩
        | tre b0 t2 =>
          obtain ⟨v2, as2, a1, a2, a3⟩ := q
          subst a1
          exact ⟨v2, as2, rfl, mv j _ t2 v2 as2 hij h1 h2 a2, a3⟩
  refine ⟨⟨fun a u e => ?_, fun a u e => ?_, fun a xs e ht2 => ?_⟩, ⟨fun a u2 e => ?_, u.f, u.fo⟩, ⟨by simp [s.len], ok, ?_⟩⟩
  · show gUp W.G l _ a = some u
    rw [gUp_ne (neF a u e)]
    exact k.fg a u e
  · have e' : gUp W.G l o a = some u := e
    show upd W.H l o a = some u
    by_cases h : a = l
    · subst h
      cases hg : W.G a with
      | none => rw [gUp_none hg] at e'; cases e'
      | some q => rw [gUp_some hg] at e'; rw [upd_same]; exact e'
    · rw [gUp_ne h] at e'; rw [upd_ne h]; exact k.gh a u e'
  · have e' : gUp W.G l o a = some xs := e
    by_cases h : a = l
    · subst h
      rcases ho with ⟨⟨q, hq⟩, ho⟩ | ⟨hq, _⟩
      · rw [gUp_some hq] at e'; cases e'; rw [ownO_tup ho] at ht2; cases ht2
      · rw [gUp_none hq] at e'; cases e'
    · rw [gUp_ne h] at e'; exact k.gt a xs e' ht2
  · show upd W.H l _ a = some u2
    rw [upd_ne (fun z => by rw [z, e5] at e; cases e)]
    exact u.h a u2 e
  · have back : ∀ (j : Nat) x y l', σ[j]? = some x → (c.set i (some (.tre a0 t')))[j]? = some y → Holds K W0 (W.wt l o) x y l' → (∃ y', c[j]? = some y' ∧ Holds K W0 W x y' l') ∨ (j = i ∧ ∀ (m : Nat) x y, σ[m]? = some x → c[m]? = some y → ¬ Holds K W0 W x y l') := by
      intro j x y l' q1 q2 q3
      by_cases hij : i = j
      · subst hij
        rw [List.getElem?_set_self (List.getElem?_eq_some_iff.mp hc).1] at q2
        cases q2
        rw [hσ] at q1; cases q1
        rcases q3 with q3 | ⟨_, t2, v2, as2, q3, q4, q5, q6⟩
        · exact absurd q3.2 Bool.false_ne_true
        · cases q3; cases q4
          rw [TOk.det _ _ _ _ q5 ht'] at q6
          rcases hbs _ q6 with z | z
          · exact .inl ⟨_, hc, .inr ⟨_, t, v, as, rfl, rfl, ht, z⟩⟩
          · exact .inr ⟨rfl, z⟩
      · rw [List.getElem?_set_ne hij] at q2
        rcases q3 with q3 | ⟨_, t2, v2, as2, rfl, rfl, q5, q6⟩
        · exact .inl ⟨_, q2, .inl q3⟩
        · obtain ⟨v3, as3, e8, e9, _⟩ := s.ok j _ _ q1 q2
          cases e8
          rw [TOk.det _ _ _ _ q5 (mv j _ t2 v2 as3 hij q1 q2 e9)] at q6
          exact .inl ⟨_, q2, .inr ⟨_, t2, v2, as3, rfl, rfl, e9, q6⟩⟩
    intro j m x y z w l' h1 h2 h3 h4 h5 h6
    rcases back j x y l' h1 h2 h5 with ⟨y1, a1, b1⟩ | ⟨a1, b1⟩
    · rcases back m z w l' h3 h4 h6 with ⟨y2, a2, b2⟩ | ⟨a2, b2⟩
      · exact s.one j m _ _ _ _ l' h1 a1 h3 a2 b1 b2
      · exact (b2 j _ _ h1 a1 b1).elim
    · rcases back m z w l' h3 h4 h6 with ⟨y2, a2, b2⟩ | ⟨a2, b2⟩
      · exact (b1 m _ _ h3 a2 b2).elim
      · rw [a1, a2]
/-! ### expressions that make a structure -/
def VTr (K : KW) (W0 : Wd) (te : TE) (g : Env → Option T) : Prop :=
  ∀ (W : Wd) (σ : L2.St) (c : Env) (t : T) (Q : VK), WOk W → Up W0 W → SD K W0 W σ c → g c = some t → (∀ W' v as, WOk W' → Gr W W' → TOk K W0 W' v t as → as.Nodup → (∀ l ∈ as, W.H l = none) → Q v W'.H) → te σ W.H Q
def VTrs (K : KW) (W0 : Wd) (ta : TA) (g : Env → Option (List T)) : Prop :=
  ∀ (W : Wd) (σ : L2.St) (c : Env) (ts : List T) (Q : List V → Hp → Prop), WOk W → Up W0 W → SD K W0 W σ c → g c = some ts → (∀ W' vs as, WOk W' → Gr W W' → TOkL K W0 W' vs ts as → as.Nodup → (∀ l ∈ as, W.H l = none) → Q vs W'.H) → ta σ W.H Q
def tgLeaf (g : GE) : Env → Option T := fun c => (g c).map T.leaf
theorem vtr_leaf {te : TE} {g : GE} (h : VT K W0 true te g) : VTr K W0 te (tgLeaf g) := by
  intro W σ c t Q k u s e q
  unfold tgLeaf at e
  simp only [Option.map_eq_some_iff] at e
  obtain ⟨d, e, rfl⟩ := e
  exact h W σ c d Q k u s e fun W' v k' g' hd => q W' v [] k' g' (.leaf hd) .nil fun _ h => nomatch h
def tgNew (g : GA) : Env → Option T := fun c => (g c).map fun ds => T.lst (ds.map T.leaf)
theorem tokL_leaves {W : Wd} : ∀ {vs : List V} {ds : List D}, DenL K W.F vs ds → TOkL K W0 W vs (ds.map T.leaf) []
  | _, [], h => by cases h; exact .nil
  | _, d :: ds, h => by
    cases h with
    | cons h1 h2 => exact TOkL.cons (.leaf h1) (tokL_leaves h2)
theorem vtr_new {te : TE} {g : GA} (h : VN K W0 te g) : VTr K W0 te (tgNew g) := by
  intro W σ c t Q k u s e q
  unfold tgNew at e
  simp only [Option.map_eq_some_iff] at e
  obtain ⟨ds, e, rfl⟩ := e
  refine h W σ c ds Q k u s e fun W' l vs k' g' hl hd => ?_
  have nW0 : W0.H l = none := (u.gr g').h.free hl
  refine q (W'.new false l (.lst vs)) _ [l] (new_ok k' hl) (g'.trans (new_gr k' hl)) (.lst upd_same upd_same (k'.nF hl) nW0 (tokL_leaves hd)) (by simp) fun a ha => ?_
  simp at ha
  subst ha
  exact g'.h.free hl
def tgNil : Env → Option (List T) := fun _ => some []
def tgCons (g : Env → Option T) (gs : Env → Option (List T)) : Env → Option (List T) := fun c => match g c with
  | some t => match gs c with
    | some ts => some (t :: ts)
    | none => none
  | none => none
theorem vtrs_nil : VTrs K W0 tNil tgNil := fun W σ c ts Q k u s e q => by
  cases e
  exact q W [] [] k (Gr.refl W) .nil .nil fun _ h => nomatch h
theorem vtrs_cons {te : TE} {ts : TA} {g : Env → Option T} {gs : Env → Option (List T)} (h : VTr K W0 te g) (hs : VTrs K W0 ts gs) : VTrs K W0 (tCons te ts) (tgCons g gs) := by
  intro W σ c us Q k u s e q
  unfold tgCons at e
  split at e
  · rename_i t ht
    split at e
    · rename_i ts' hts
      cases e
      refine h W σ c t _ k u s ht fun W1 v as k1 g1 d1 n1 f1 => ?_
      refine hs W1 σ c ts' _ k1 (u.gr g1) (s.gr g1) hts fun W2 vs bs k2 g2 d2 n2 f2 => ?_
      refine q W2 (v :: vs) (as ++ bs) k2 (g1.trans g2) (.cons (d1.gr g2) d2) ?_ fun l hl => ?_
      · rw [List.nodup_append]
        refine ⟨n1, n2, fun a ha b hb => ?_⟩
        obtain ⟨⟨o, z, _⟩, _⟩ := TOk.there t v as d1 a ha
        intro hab
        rw [hab, f2 b hb] at z
        cases z
      · rcases List.mem_append.mp hl with h | h
        · exact f1 l h
        · exact g1.h.free (f2 l h)
    · cases e
  · cases e
def tgLst (gs : Env → Option (List T)) : Env → Option T := fun c => match gs c with
  | some ts => if ts.length ≤ sizeLine then some (.lst ts) else none
  | none => none
theorem TOkL.length : ∀ {ts : List T} {W : Wd} {vs : List V} {as : List Addr}, TOkL K W0 W vs ts as → vs.length = ts.length
  | [], _, _, _, h => by cases h; rfl
  | t :: ts, _, _, _, h => by
    cases h with
    | cons h1 h2 => simp [TOkL.length h2]
theorem TOkL.gr {W W' : Wd} (g : Gr W W') {vs : List V} {ts : List T} {as : List Addr} (h : TOkL K W0 W vs ts as) : TOkL K W0 W' vs ts as :=
  TOkL.move g.f (fun _ e => e) ts vs as (fun l hl => by
    obtain ⟨⟨o, h1, _⟩, h3, h4⟩ := TOkL.there ts vs as h l hl
    exact ⟨(g.h _ _ h1).trans h1.symm, g.go _ _ h1, g.fo _ _ h1⟩) h
theorem vtr_lst {ta : TA} {gs : Env → Option (List T)} (h : VTrs K W0 ta gs) : VTr K W0 (tLst ta) (tgLst gs) := by
  intro W σ c t Q k u s e q
  unfold tgLst at e
  split at e
  · rename_i ts hts
    split at e
    · rename_i hz
      cases e
      refine h W σ c ts _ k u s hts fun W1 vs as k1 g1 d1 n1 f1 => ⟨by rw [TOkL.length d1]; exact hz, fun p hp => ?_⟩
      have nW0 : W0.H p = none := (u.gr g1).h.free hp
      refine q (W1.new false p (.lst vs)) _ (p :: as) (new_ok k1 hp) (g1.trans (new_gr k1 hp)) (.lst upd_same upd_same (k1.nF hp) nW0 (d1.gr (new_gr k1 hp))) ?_ fun l hl => ?_
      · rw [List.nodup_cons]
        refine ⟨fun hm => ?_, n1⟩
        obtain ⟨⟨o, z, _⟩, _⟩ := TOkL.there ts vs as d1 p hm
        rw [hp] at z; cases z
      · rcases List.mem_cons.mp hl with h | h
        · rw [h]; exact g1.h.free hp
        · exact f1 l h
    · cases e
  · cases e
def tgTup (gs : Env → Option (List T)) : Env → Option T := fun c => match gs c with
  | some ts => if ts.length ≤ sizeLine then some (.tup ts) else none
  | none => none
theorem vtr_tup {ta : TA} {gs : Env → Option (List T)} (h : VTrs K W0 ta gs) : VTr K W0 (tTup ta) (tgTup gs) := by
  intro W σ c t Q k u s e q
  unfold tgTup at e
  split at e
  · rename_i ts hts
    split at e
    · rename_i hz
      cases e
      refine h W σ c ts _ k u s hts fun W1 vs as k1 g1 d1 n1 f1 => ⟨by rw [TOkL.length d1]; exact hz, fun p hp => ?_⟩
      exact q (W1.new false p (.tup vs)) _ as (new_ok k1 hp) (g1.trans (new_gr k1 hp)) (.tup (upd_same : upd W1.F p _ p = _) (d1.gr (new_gr k1 hp))) n1 f1
    · cases e
  · cases e
/-- name = a new structure -/
def gAsgT (i : Nat) (g : Env → Option T) : GS := fun c => match g c with
  | some t => some (.nx (c.set i (some (.tre none t))))
  | none => none
theorem vs_asgT {i : Nat} {te : TE} {g : Env → Option T} (h : VTr K W0 te g) : VS K W0 E (tAsg te (gName i)) (gAsgT i g) := by
  intro W σ c D k u s q
  unfold gAsgT at q
  cases e : g c with
  | none => rw [e] at q; exact q.elim
  | some t =>
    rw [e] at q
    refine h W σ c t _ k u s e fun W' v as k' g' d' n' f' => ?_
    refine q W' _ k' (u.gr g') g'.f (sd_set (s.gr g') i _ _ ⟨v, as, rfl, d', n', fun _ e => nomatch e⟩ ?_)
    intro l hh j z w h3 h4 h5
    rcases hh with ⟨h1, h2⟩ | ⟨_, t2, v2, as2, h1, h2, h6, h7⟩
    · cases h2
    · cases h1; cases h2
      rw [TOk.det _ _ _ _ h6 d'] at h7
      have h8 : Holds K W0 W z w l := by
        rcases h5 with h5 | ⟨_, t, v3, as3, rfl, rfl, h9, h10⟩
        · exact .inl h5
        · obtain ⟨v4, bs, e4, h11, _⟩ := s.ok j _ _ h3 h4
          cases e4
          rw [TOk.det t v3 as3 bs h9 (h11.gr g')] at h10
          exact .inr ⟨_, t, v3, bs, rfl, rfl, h11, h10⟩
      obtain ⟨o, ho⟩ := hold_there s h3 h4 h8
      rw [f' l h7] at ho; cases ho
/-! ### places within structures -/
def T.kids : T → List T
  | .leaf _ => [] | .lst ts => ts | .tup ts => ts | .dct _ _ ts => ts | .obj _ _ _ ts => ts
def T.withKids (t : T) (us : List T) : T := match t with
  | .leaf d => .leaf d | .lst _ => .lst us | .tup _ => .tup us | .dct b ks _ => .dct b ks us | .obj n C ns _ => .obj n C ns us
def T.sub : List Nat → T → Option T
  | [], t => some t
  | n :: π, t => match t.kids[n]? with
    | some k => T.sub π k
    | none => none
def T.put : List Nat → T → T → T
  | [], x, _ => x
  | n :: π, x, t => match t.kids[n]? with
    | some k => t.withKids (t.kids.set n (T.put π x k))
    | none => t
theorem tokL_at {W : Wd} : ∀ {ts : List T} {vs : List V} {as : List Addr} {n : Nat} {t : T}, TOkL K W0 W vs ts as → ts[n]? = some t → ∃ v a1 a2 a3, vs[n]? = some v ∧ TOk K W0 W v t a2 ∧ as = a1 ++ a2 ++ a3 ∧
    ∀ (W' : Wd) (t' : T) (b2 : List Addr), Same W.F W'.F → (∀ l ∈ a1 ++ a3, W'.H l = W.H l ∧ W'.G l = W.G l ∧ W'.F l = W.F l) → TOk K W0 W' v t' b2 → TOkL K W0 W' vs (ts.set n t') (a1 ++ b2 ++ a3)
  | [], _, _, _, _, _, h => by cases h
  | t :: ts, _, _, 0, t0, h, e => by
    cases h with
    | @cons v _ as vs _ bs h1 h2 =>
      cases e
      refine ⟨v, [], as, bs, rfl, h1, rfl, fun W' t' b2 ff hm ht => .cons ht ?_⟩
      exact TOkL.move ff (fun _ e => e) ts vs bs hm h2
  | t :: ts, _, _, n + 1, t0, h, e => by
    cases h with
    | @cons v _ as vs _ bs h1 h2 =>
      obtain ⟨w, a1, a2, a3, e1, e2, rfl, e4⟩ := tokL_at (n := n) (t := t0) h2 (by simpa using e)
      refine ⟨w, as ++ a1, a2, a3, by simpa using e1, e2, by simp, fun W' t' b2 ff hm ht => ?_⟩
      have := e4 W' t' b2 ff (fun l hl => hm l ?_) ht
      · rw [List.append_assoc, List.append_assoc, ← List.append_assoc a1]
        exact .cons (TOk.move ff (fun _ e => e) t v as (fun l hl => hm l (by simp [hl])) h1) this
      · rcases List.mem_append.mp hl with h | h <;> simp [h]
/-- the values of the dict v -/
def dctVals (K : KW) (W : Wd) (v : V) (b : Bool) (vs : List V) : Prop := ∃ l, v = .ref l ∧ ((b = false ∧ ∃ kvs, W.H l = some (.dK kvs) ∧ kvs.map (·.2) = vs) ∨ (b = true ∧ ∃ xs, W.H l = some (.ext (dφ K.w l xs)) ∧ ((l == sysModules) = false ∧ xs.length ≤ sizeLine ∧ (xs.map (·.1)).Nodup) ∧ Vals vs (xs.map (·.2.2))))
theorem dctVals_det {W : Wd} {v : V} {b : Bool} {vs us : List V} (h : dctVals K W v b vs) (g : dctVals K W v b us) : vs = us := by
  obtain ⟨l, rfl, h⟩ := h
  obtain ⟨l', e, g⟩ := g
  cases e
  rcases h with ⟨rfl, kvs, h1, rfl⟩ | ⟨rfl, xs, h1, h2, h3⟩
  · rcases g with ⟨_, kvs', g1, rfl⟩ | ⟨z, _⟩
    · rw [h1] at g1; cases g1; rfl
    · cases z
  · rcases g with ⟨z, _⟩ | ⟨_, ys, g1, g2, g3⟩
    · cases z
    · rw [h1] at g1
      have e1 := dφ_inj h2.1 h2.2.1 h2.2.2 (HO.ext.inj (Option.some.inj g1))
      have e2 := congrArg (List.map (fun p : Addr × Value => p.2)) e1
      rw [List.map_map, List.map_map] at e2
      have e3 : Vals us (List.map (fun x : NE => x.2.2) xs) := by
        rw [show List.map (fun x : NE => x.2.2) xs = List.map (fun x : NE => x.2.2) ys from e2]
        exact g3
      exact Vals.inj h3 e3
/-- one step down -/
theorem tok_kid {W : Wd} {t k : T} {v : V} {as : List Addr} {n : Nat} (h : TOk K W0 W v t as) (e : t.kids[n]? = some k) : ∃ v1 a1 a2 a3, TOk K W0 W v1 k a2 ∧ as = a1 ++ a2 ++ a3 ∧
    (∀ (W' : Wd) (k' : T) (b2 : List Addr), Same W.F W'.F → (∀ l ∈ a1 ++ a3, W'.H l = W.H l ∧ W'.G l = W.G l ∧ W'.F l = W.F l) → TOk K W0 W' v1 k' b2 → TOk K W0 W' v (t.withKids (t.kids.set n k')) (a1 ++ b2 ++ a3)) ∧
    ∃ vs, vs[n]? = some v1 ∧ (∀ ts, t = .lst ts → ∃ l, v = .ref l ∧ W.H l = some (.lst vs)) ∧ (∀ ts, t = .tup ts → ∃ l, v = .ref l ∧ W.F l = some (.tup vs)) ∧
      (∀ m C ns ts, t = .obj m C ns ts → ∃ l dx fs, v = .ref l ∧ W.H l = some (.ins C dx fs) ∧ (fs.map (·.1) = ns ∧ C = K.cls m) ∧ fs.map (·.2) = vs) ∧ (∀ b ks ts, t = .dct b ks ts → dctVals K W v b vs) := by
  cases t with
  | leaf d => cases e
  | lst ts =>
    cases h with
    | @lst l vs _ bs h1 h2 h3 h4 h5 =>
      obtain ⟨v1, a1, a2, a3, e1, e2, rfl, e4⟩ := tokL_at h5 e
      refine ⟨v1, l :: a1, a2, a3, e2, rfl, fun W' k' b2 ff hm hk => ?_, vs, e1, (fun _ _ => ⟨l, rfl, h1⟩), (fun _ z => nomatch z), (fun _ _ _ _ z => nomatch z), (fun _ _ _ z => nomatch z)⟩
      obtain ⟨m1, m2, m3⟩ := hm l (by simp)
      exact .lst (m1.trans h1) (m2.trans h2) (m3.trans h3) h4 (e4 W' k' b2 ff (fun l hl => hm l (by simp at hl ⊢; exact .inr hl)) hk)
  | tup ts =>
    cases h with
    | @tup l vs _ bs h1 h2 =>
      obtain ⟨v1, a1, a2, a3, e1, e2, rfl, e4⟩ := tokL_at h2 e
      exact ⟨v1, a1, a2, a3, e2, rfl, fun W' k' b2 ff hm hk => .tup (ff _ _ h1) (e4 W' k' b2 ff hm hk), vs, e1, (fun _ z => nomatch z), (fun _ _ => ⟨l, rfl, h1⟩), (fun _ _ _ _ z => nomatch z), (fun _ _ _ z => nomatch z)⟩
  | dct b ks ts =>
    cases h with
    | @dK l kvs _ _ bs h1 h2 h3 h4 h5 h6 =>
      obtain ⟨v1, a1, a2, a3, e1, e2, rfl, e4⟩ := tokL_at h6 e
      refine ⟨v1, l :: a1, a2, a3, e2, rfl, fun W' k' b2 ff hm hk => ?_, _, e1, (fun _ z => nomatch z), (fun _ z => nomatch z), (fun _ _ _ _ z => nomatch z), (fun b' ks' ts' z => by cases z; exact ⟨l, rfl, .inl ⟨rfl, kvs, h1, rfl⟩⟩)⟩
      obtain ⟨m1, m2, m3⟩ := hm l (by simp)
      exact .dK (m1.trans h1) (m2.trans h2) (m3.trans h3) h4 h5 (e4 W' k' b2 ff (fun l hl => hm l (by simp at hl ⊢; exact .inr hl)) hk)
    | @dN l xs vs _ _ bs h1 h2 h3 h4 h5 h6 h7 h8 h9 =>
      obtain ⟨v1, a1, a2, a3, e1, e2, rfl, e4⟩ := tokL_at h9 e
      refine ⟨v1, l :: a1, a2, a3, e2, rfl, fun W' k' b2 ff hm hk => ?_, vs, e1, (fun _ z => nomatch z), (fun _ z => nomatch z), (fun _ _ _ _ z => nomatch z), (fun b' ks' ts' z => by cases z; exact ⟨l, rfl, .inr ⟨rfl, xs, h1, h5, h8⟩⟩)⟩
      obtain ⟨m1, m2, m3⟩ := hm l (by simp)
      exact .dN (m1.trans h1) (m2.trans h2) (m3.trans h3) h4 h5 (h6.up ff) h7 h8 (e4 W' k' b2 ff (fun l hl => hm l (by simp at hl ⊢; exact .inr hl)) hk)
  | obj m C ns ts =>
    cases h with
    | @obj _ l dx _ fs _ _ bs h1 h2 h3 h4 h5 h6 =>
      obtain ⟨v1, a1, a2, a3, e1, e2, rfl, e4⟩ := tokL_at h6 e
      refine ⟨v1, l :: a1, a2, a3, e2, rfl, fun W' k' b2 ff hm hk => ?_, _, e1, (fun _ z => nomatch z), (fun _ z => nomatch z), (fun m' C' ns' ts' z => by cases z; exact ⟨l, dx, fs, rfl, h1, h5, rfl⟩), (fun _ _ _ z => nomatch z)⟩
      obtain ⟨m1, m2, m3⟩ := hm l (by simp)
      exact .obj (m1.trans h1) (m2.trans h2) (m3.trans h3) h4 h5 (e4 W' k' b2 ff (fun l hl => hm l (by simp at hl ⊢; exact .inr hl)) hk)
/-- the value v1 with the structure t1 stands in v at the place π -/
def Foc (K : KW) (W0 W : Wd) (v : V) (t : T) (as : List Addr) (π : List Nat) (v1 : V) (t1 : T) (a1 a2 a3 : List Addr) : Prop :=
  as = a1 ++ a2 ++ a3 ∧ TOk K W0 W v1 t1 a2 ∧ ∀ (W' : Wd) (t' : T) (b2 : List Addr), Same W.F W'.F → (∀ l ∈ a1 ++ a3, W'.H l = W.H l ∧ W'.G l = W.G l ∧ W'.F l = W.F l) → TOk K W0 W' v1 t' b2 → TOk K W0 W' v (T.put π t' t) (a1 ++ b2 ++ a3)
theorem put_snoc : ∀ (π : List Nat) (n : Nat) (t t1 k x : T), T.sub π t = some t1 → t1.kids[n]? = some k → T.put (π ++ [n]) x t = T.put π (t1.withKids (t1.kids.set n x)) t
  | [], n, t, t1, k, x, h, e => by
    cases h
    show (match t.kids[n]? with | some k => t.withKids (t.kids.set n (T.put [] x k)) | none => t) = _
    rw [e]; rfl
  | m :: π, n, t, t1, k, x, h, e => by
    have h' : (match t.kids[m]? with | some k => T.sub π k | none => none) = some t1 := h
    show (match t.kids[m]? with | some k => t.withKids (t.kids.set m (T.put (π ++ [n]) x k)) | none => t) = (match t.kids[m]? with | some k => t.withKids (t.kids.set m (T.put π (t1.withKids (t1.kids.set n x)) k)) | none => t)
    cases hk : t.kids[m]? with
    | none => rfl
    | some q =>
      rw [hk] at h'
      simp only
      rw [put_snoc π n q t1 k x h' e]
theorem sub_snoc : ∀ (π : List Nat) (n : Nat) (t t1 k : T), T.sub π t = some t1 → t1.kids[n]? = some k → T.sub (π ++ [n]) t = some k
  | [], n, t, t1, k, h, e => by
    cases h
    show (match t.kids[n]? with | some k => T.sub [] k | none => none) = _
    rw [e]; rfl
  | m :: π, n, t, t1, k, h, e => by
    have h' : (match t.kids[m]? with | some k => T.sub π k | none => none) = some t1 := h
    show (match t.kids[m]? with | some k => T.sub (π ++ [n]) k | none => none) = _
    cases hk : t.kids[m]? with
    | none => rw [hk] at h'; cases h'
    | some q =>
      rw [hk] at h'
      exact sub_snoc π n q t1 k h' e
theorem Foc.nil {W : Wd} {v : V} {t : T} {as : List Addr} (h : TOk K W0 W v t as) : Foc K W0 W v t as [] v t [] as [] :=
  ⟨by simp, h, fun W' t' b2 _ _ ht => by simpa [T.put] using ht⟩
theorem Foc.snoc {W : Wd} {v v1 : V} {t t1 k : T} {as a1 a2 a3 : List Addr} {π : List Nat} {n : Nat} (f : Foc K W0 W v t as π v1 t1 a1 a2 a3) (hs : T.sub π t = some t1) (e : t1.kids[n]? = some k) : ∃ v2 b1 b2 b3, Foc K W0 W v t as (π ++ [n]) v2 k b1 b2 b3 ∧
    ∃ vs, vs[n]? = some v2 ∧ (∀ ts, t1 = .lst ts → ∃ l, v1 = .ref l ∧ W.H l = some (.lst vs)) ∧ (∀ ts, t1 = .tup ts → ∃ l, v1 = .ref l ∧ W.F l = some (.tup vs)) ∧
      (∀ m C ns ts, t1 = .obj m C ns ts → ∃ l dx fs, v1 = .ref l ∧ W.H l = some (.ins C dx fs) ∧ (fs.map (·.1) = ns ∧ C = K.cls m) ∧ fs.map (·.2) = vs) ∧ (∀ b ks ts, t1 = .dct b ks ts → dctVals K W v1 b vs) := by
  obtain ⟨rfl, h2, h3⟩ := f
  obtain ⟨v2, c1, c2, c3, e1, rfl, e3, e4⟩ := tok_kid h2 e
  refine ⟨v2, a1 ++ c1, c2, c3 ++ a3, ⟨by simp, e1, fun W' t' b2 ff hm ht => ?_⟩, e4⟩
  rw [put_snoc π n t t1 k t' hs e]
  have := h3 W' _ _ ff (fun l hl => hm l (by simp at hl ⊢; rcases hl with h | h <;> simp [h])) (e3 W' t' b2 ff (fun l hl => hm l (by simp at hl ⊢; rcases hl with h | h <;> simp [h])) ht)
  simpa using this
theorem Foc.gr {W W' : Wd} (g : Gr W W') {v v1 : V} {t t1 : T} {as a1 a2 a3 : List Addr} {π : List Nat} (f : Foc K W0 W v t as π v1 t1 a1 a2 a3) (ht : TOk K W0 W v t as) : Foc K W0 W' v t as π v1 t1 a1 a2 a3 := by
  obtain ⟨e, h2, h3⟩ := f
  refine ⟨e, h2.gr g, fun W2 t' b2 ff hm h => h3 W2 t' b2 (g.f.trans ff) (fun l hl => ?_) h⟩
  obtain ⟨m1, m2, m3⟩ := hm l hl
  have hl' : l ∈ as := by
    rw [e]
    rcases List.mem_append.mp hl with h | h <;> simp [h]
  obtain ⟨⟨o, z, _⟩, _⟩ := TOk.there t v as ht l hl'
  exact ⟨m1.trans ((g.h _ _ z).trans z.symm), m2.trans (g.go _ _ z), m3.trans (g.fo _ _ z)⟩
/-- an expression that leads to a place -/
def VP (K : KW) (W0 : Wd) (te : TE) (gp : Env → Option (Nat × List Nat)) : Prop :=
  ∀ (W : Wd) (σ : L2.St) (c : Env) (i : Nat) (π : List Nat) (Q : VK), WOk W → Up W0 W → SD K W0 W σ c → gp c = some (i, π) →
    (∀ W' v0 v1 t t1 as a1 a2 a3, WOk W' → Gr W W' → (∃ b, c[i]? = some (some (.tre b t))) → σ[i]? = some (some v0) → T.sub π t = some t1 → TOk K W0 W' v0 t as → as.Nodup → Foc K W0 W' v0 t as π v1 t1 a1 a2 a3 → Q v1 W'.H) → te σ W.H Q
def gpVar (i : Nat) : Env → Option (Nat × List Nat) := fun c => match c[i]? with
  | some (some (.tre _ _)) => some (i, [])
  | _ => none
theorem vp_var (i : Nat) : VP K W0 (tVar i) (gpVar i) := by
  intro W σ c j π Q k u s e q
  unfold gpVar at e
  split at e
  · rename_i b t hc
    cases e
    obtain ⟨x, hx, v, as, rfl, h1, h2⟩ := s.at hc
    exact ⟨_, hx, q W v v t t as [] as [] k (Gr.refl W) ⟨_, hc⟩ hx rfl h1 h2.1 (Foc.nil h1)⟩
  · cases e
/-- what stands at a place -/
def atP (gp : Env → Option (Nat × List Nat)) (c : Env) : Option (Nat × List Nat × T × T) := match gp c with
  | some (i, π) => match c[i]? with
    | some (some (.tre _ t)) => match T.sub π t with
      | some t1 => some (i, π, t, t1)
      | none => none
    | _ => none
  | none => none
theorem atP_some {gp : Env → Option (Nat × List Nat)} {c : Env} {i : Nat} {π : List Nat} {t t1 : T} (h : atP gp c = some (i, π, t, t1)) : ∃ a, gp c = some (i, π) ∧ c[i]? = some (some (.tre a t)) ∧ T.sub π t = some t1 := by
  unfold atP at h
  split at h
  · rename_i j ρ hg
    split at h
    · rename_i t' hc
      split at h
      · rename_i t1' hs
        cases h
        exact ⟨_, hg, hc, hs⟩
      · cases h
    · cases h
  · cases h
/-- p.f, p of the class of this number -/
def gpFld (m : Nat) (f : Str) (gp : Env → Option (Nat × List Nat)) : Env → Option (Nat × List Nat) := fun c => match atP gp c with
  | some (i, π, _, .obj m' _ ns ts) => if m' = m then match ns.findIdx? (fun x => decide (x = f)) with
      | some n => if n < ts.length then some (i, π ++ [n]) else none
      | none => none
    else none
  | _ => none
theorem look_ix {f : Str} : ∀ {fs : List (Str × V)} {n : Nat} {v : V}, (fs.map (·.1)).findIdx? (fun x => decide (x = f)) = some n → (fs.map (·.2))[n]? = some v → fs.lookup f = some v
  | [], _, _, h, _ => by simp at h
  | (m, w) :: fs, n, v, h, e => by
    rw [List.map_cons, List.findIdx?_cons] at h
    by_cases hm : m = f
    · rw [decide_eq_true hm] at h
      simp only [if_true] at h
      cases h
      subst hm
      simp at e
      subst e
      simp [List.lookup]
    · rw [decide_eq_false hm] at h
      simp only [Bool.false_eq_true, if_false, Option.map_eq_some_iff] at h
      obtain ⟨p, hp, rfl⟩ := h
      have hb : (f == m) = false := by simpa using Ne.symm hm
      rw [List.lookup, hb]
      exact look_ix hp (by simpa using e)
theorem vp_fld {m : Nat} {te : TE} {f : Str} {gp : Env → Option (Nat × List Nat)} (hC : Cls K (K.cls m)) (hn : NoAttr K (K.cls m) f) (h : VP K W0 te gp) : VP K W0 (tFld K te f) (gpFld m f gp) := by
  intro W σ c i π Q k u s e q
  unfold gpFld at e
  split at e
  · rename_i j ρ t m' C' ns ts ha
    split at e
    · rename_i hm
      subst hm
      split at e
      · rename_i n hn'
        split at e
        · rename_i hlt
          cases e
          obtain ⟨a0, e1, e2, e3⟩ := atP_some ha
          refine h W σ c i ρ _ k u s e1 fun W' v0 v1 t0 t1 as a1 a2 a3 k' g' h1 h2 h3 h4 h5 h6 => ?_
          obtain ⟨_, h1⟩ := h1; rw [e2] at h1; cases h1
          rw [e3] at h3; cases h3
          have hk : (T.obj m' C' ns ts).kids[n]? = some ts[n] := List.getElem?_eq_getElem hlt
          obtain ⟨v2, b1, b2, b3, f2, vs, hv, _, _, hob, _⟩ := h6.snoc e3 hk
          obtain ⟨l, dx, fs, rfl, ho, ⟨hns, hC'⟩, hvs⟩ := hob _ _ _ _ rfl
          subst hns hvs hC'
          exact ⟨l, _, dx, fs, v2, rfl, ho, hC, hn, look_ix hn' hv, q W' v0 v2 t _ as b1 b2 b3 k' g' ⟨_, e2⟩ h2 (sub_snoc ρ n t _ _ e3 hk) h4 h5 f2⟩
        · cases e
      · cases e
    · cases e
  · cases e
end
end VL
end

section
/-! VT2: an alias of an inner list that grows; dicts of one's own; insert, pop. -/
namespace VL
open PySem PySem.Spec PyProof.Rows L2
section
variable {K : KW} {E : XK} {W0 : Wd}
/-! ### insert, and what pop takes out is appended -/
def rInsert : V → List V → Hp → VK → Prop := fun x vs H Q => ∃ (l : Addr) (xs : List V) (i : Int) (y : V), x = .ref l ∧ vs = [.int i, y] ∧ H l = some (.lst xs) ∧ xs.length < sizeLine ∧ 0 ≤ i ∧ i < 2 ^ 63 ∧ Q .non (upd H l (.lst (xs.take i.toNat ++ [y] ++ xs.drop i.toNat)))
theorem mt_insertU {X : Cx} : MtR X "list.insert" rInsert := mt_insert
/-- x.insert(k, e) -/
def gInsert (i : Nat) (gk ge : GE) : GS := fun c => match c[i]? with
  | some (some (.own ds)) => match gk c with
    | some (.int j) => match ge c with
      | some d => if ds.length < sizeLine ∧ 0 ≤ j ∧ j < 2 ^ 62 then some (.nx (c.set i (some (.own (ds.take j.toNat ++ [d] ++ ds.drop j.toNat))))) else none
      | none => none
    | _ => none
  | _ => none
theorem vs_insert {i : Nat} {b : Bool} {tk te : TE} {gk ge : GE} (hk : VT K W0 b tk gk) (he : VT K W0 true te ge) : VS K W0 E (tDrop (tBM K "list" rInsert (tVar i) (tCons tk (tCons te tNil)))) (gInsert i gk ge) := by
  intro W σ c D k u s q
  unfold gInsert at q
  split at q
  · rename_i ds hc
    cases e2 : gk c with
    | none => rw [e2] at q; exact q.elim
    | some z =>
      cases z with
      | int j =>
        simp only [e2] at q
        cases e : ge c with
        | none => rw [e] at q; exact q.elim
        | some d =>
          simp only [e] at q
          by_cases hh : ds.length < sizeLine ∧ 0 ≤ j ∧ j < 2 ^ 62
          · rw [if_pos hh] at q
            obtain ⟨x, hx, l, vs, rfl, h1, h2, h3, h4, h5⟩ := s.at hc
            refine ⟨_, hx, .inl ⟨rfl, _, SqL.of h1⟩, hk W σ c _ _ k u s e2 fun W1 v1 k1 g1 hd1 => he W1 σ c d _ k1 (u.gr g1) (s.gr g1) e fun W2 v k2 g2 hd => ?_⟩
            cases hd1
            have h52 := (h5.up g1.f).up g2.f
            refine ⟨l, vs, j, v, rfl, rfl, g2.h _ _ (g1.h _ _ h1), by rw [h5.length]; exact hh.1, hh.2.1, by have := hh.2.2; omega, ?_⟩
            obtain ⟨k3, u3, s3⟩ := wr_sd (vs := vs) k2 ((u.gr g1).gr g2) ((s.gr g1).gr g2) hx hc (((h52.take j.toNat).append (.cons hd .nil)).append (h52.drop j.toNat))
            exact q (W2.wr l (.lst (vs.take j.toNat ++ [v] ++ vs.drop j.toNat))) σ k3 u3 (g1.f.trans g2.f) s3
          · rw [if_neg hh] at q; exact q.elim
      | _ => simp only [e2] at q; exact q.elim
  · exact q.elim
/-- x.append(y.pop(k)) -/
def gAppPop (i m : Nat) (gk : GE) : GS := fun c => match c[i]? with
  | some (some (.own ds)) => match c[m]? with
    | some (some (.own es)) => match gk c with
      | some (.int j) => match seqIndex? j es.length with
        | some n => match es[n]? with
          | some d => if i ≠ m ∧ ds.length < sizeLine ∧ -(2 ^ 63) ≤ j ∧ j < 2 ^ 63 then some (.nx ((c.set m (some (.own (es.eraseIdx n)))).set i (some (.own (ds ++ [d]))))) else none
          | none => none
        | none => none
      | _ => none
    | _ => none
  | _ => none
theorem vs_appPop {i m : Nat} {b : Bool} {tk : TE} {gk : GE} (hk : VT K W0 b tk gk) : VS K W0 E (tDrop (tBM K "list" rAppend (tVar i) (tCons (tBM K "list" rPopAt (tVar m) (tCons tk tNil)) tNil))) (gAppPop i m gk) := by
  intro W σ c D k u s q
  unfold gAppPop at q
  split at q
  · rename_i ds hc
    split at q
    · rename_i es hm
      split at q
      · rename_i j hj
        split at q
        · rename_i n hn
          split at q
          · rename_i d hd
            split at q
            · rename_i hh
              obtain ⟨him, hz, hj1, hj2⟩ := hh
              obtain ⟨x, hx, l, vs, rfl, h1, h2, h3, h4, h5⟩ := s.at hc
              obtain ⟨x', hx', l', vs', rfl, h1', h2', h3', h4', h5'⟩ := s.at hm
              refine ⟨_, hx, .inl ⟨rfl, _, SqL.of h1⟩, ?_⟩
              refine ⟨_, hx', .inl ⟨rfl, _, SqL.of h1'⟩, hk W σ c _ _ k u s hj fun W1 v1 k1 g1 hd1 => ?_⟩
              cases hd1
              obtain ⟨w, hw, dw⟩ := (h5'.up g1.f).get hd
              refine ⟨l', vs', j, n, w, rfl, rfl, g1.h _ _ h1', hj1, hj2, by rw [h5'.length]; exact hn, hw, ?_⟩
              obtain ⟨k2, u2, s2⟩ := wr_sd (vs := vs') k1 (u.gr g1) (s.gr g1) hx' hm ((h5'.up g1.f).eraseIdx n)
              have hc2 : (c.set m (some (.own (es.eraseIdx n))))[i]? = some (some (.own ds)) := (List.getElem?_set_ne (Ne.symm him)).trans hc
              obtain ⟨x2, hx2, l2, vs2, e2, b1, b2, b3, b4, b5⟩ := s2.at hc2
              rw [hx] at hx2
              cases hx2
              cases e2
              refine ⟨l, vs2, w, rfl, rfl, b1, by rw [b5.length]; exact hz, ?_⟩
              obtain ⟨k3, u3, s3⟩ := wr_sd (vs := vs2) k2 u2 s2 hx hc2 (b5.append (.cons dw .nil))
              exact q ((W1.wr l' (.lst (vs'.eraseIdx n))).wr l (.lst (vs2 ++ [w]))) σ k3 u3 g1.f s3
            · exact q.elim
          · exact q.elim
        · exact q.elim
      · exact q.elim
    · exact q.elim
  · exact q.elim
def gTRg (g : GA) : GE := fun c => (g c).map D.tup
theorem vt_tupRg {b : Bool} {tr : L2.St → Hp → (Int → Int → Hp → Prop) → Prop} {g : Env → Option (Int × Int)} (h : VRg K W0 tr g) : VT K W0 b (tTupRg tr) (gTRg (gLRg g)) := by
  intro W σ c d Q k u s e q
  unfold gTRg at e
  simp only [Option.map_eq_some_iff] at e
  obtain ⟨ds, e, rfl⟩ := e
  unfold gLRg at e
  split at e
  · rename_i a b' hab
    split at e
    · rename_i hz
      cases e
      refine h W σ c _ _ k u s hab fun W1 k1 g1 => ⟨hz, fun l hl => ?_⟩
      refine q (W1.new b l (.tup (rgV a b'))) _ (new_ok k1 hl) (g1.trans (new_gr k1 hl)) (.tup (.inl (.inl new_self)) (den_rg a b'))
    · cases e
  · cases e
/-! ### statements of what may raise -/
def gDropX (g : GR) : GS := fun c => match g c with
  | some (.val _) => some (.nx c)
  | some (.exn C ns ds) => some (.ex C ns ds)
  | none => none
theorem vs_dropX {b : Bool} {te : TE} {g : GR} (h : VTX K W0 (fun _ => E) b te g) : VS K W0 E (tDrop te) (gDropX g) := by
  intro W σ c D k u s q
  unfold gDropX at q
  refine h W σ c _ k u s ?_
  cases e : g c with
  | none => rw [e] at q; exact q.elim
  | some r =>
    rw [e] at q
    cases r with
    | val d => exact fun W2 v k2 g2 hd => q W2 σ k2 (u.gr g2) g2.f (s.gr g2)
    | exn C ns ds => exact fun W2 dx fs k2 g2 h1 h2 h3 h4 => q W2 dx fs k2 (u.gr g2) g2.f h1 (u.h.free h2) h3 h4
def gAsgRX (i : Nat) (g : GR) : GS := fun c => match g c with
  | some (.val d) => some (.nx (c.set i (some (.fz d))))
  | some (.exn C ns ds) => some (.ex C ns ds)
  | none => none
theorem vs_asgRX {i : Nat} {te : TE} {g : GR} (h : VTX K W0 (fun _ => E) true te g) : VS K W0 E (tAsg te (gName i)) (gAsgRX i g) := by
  intro W σ c D k u s q
  unfold gAsgRX at q
  refine h W σ c _ k u s ?_
  cases e : g c with
  | none => rw [e] at q; exact q.elim
  | some r =>
    rw [e] at q
    cases r with
    | val d => exact fun W2 v k2 g2 hd => q W2 _ k2 (u.gr g2) g2.f (sd_fz (s.gr g2) i hd)
    | exn C ns ds => exact fun W2 dx fs k2 g2 h1 h2 h3 h4 => q W2 dx fs k2 (u.gr g2) g2.f h1 (u.h.free h2) h3 h4
theorem vs_assoc {t1 t2 t3 : TS} {g : GS} (h : VS K W0 E (tSeq (tSeq t1 t2) t3) g) : VS K W0 E (tSeq t1 (tSeq t2 t3)) g := h
theorem ansB_ok {cw : Value} : ∀ {l : List (Addr × Bool)} {C : Addr}, (∀ p ∈ l, PySem.W.kitOne K (.ref p.1) cw = some p.2) → C ∈ l.map (·.1) → PySem.W.kitOne K (.ref C) cw = some (ansB C l)
  | [], C, _, h => by cases h
  | (D, r) :: l, C, h, hm => by
    unfold ansB
    by_cases hC : C = D
    · rw [if_pos hC, hC]
      exact h (D, r) (List.mem_cons_self ..)
    · rw [if_neg hC]
      refine ansB_ok (fun p hp => h p (List.mem_cons_of_mem _ hp)) ?_
      rw [List.map_cons, List.mem_cons] at hm
      exact hm.resolve_left hC
theorem room_u1 {k : Nat} {A : Around} (r : Room k A) : A.units + 1 < cLine := by have := r.units; omega
end
end VL
end

section
/-! VV: more rules, made for a tactic that evaluates expressions (EV.txt). -/
namespace VL
open PySem PySem.Spec PyProof.Rows L2
theorem len_lstM {α : Type} {e : α → D} {xs : List α} : fLen [.lst (xs.map e)] = some (.int (xs.length : Nat)) := by
  show some (D.int ((xs.map e).length : Nat)) = _
  rw [List.length_map]
theorem len_tupM {α : Type} {e : α → D} {xs : List α} : fLen [.tup (xs.map e)] = some (.int (xs.length : Nat)) := by
  show some (D.int ((xs.map e).length : Nat)) = _
  rw [List.length_map]
theorem len_scrM {α : Type} {e : α → D} {xs : List α} : fLen [.scr (xs.map e)] = some (.int (xs.length : Nat)) := by
  show some (D.int ((xs.map e).length : Nat)) = _
  rw [List.length_map]
/-- a digit modulo a length, as a place -/
theorem mod_at {d : Int} {n : Nat} (h : 0 < n) : ∃ k : Nat, k < n ∧ d % (n : Int) = (k : Int) := by
  refine ⟨(d % (n : Int)).toNat, ?_, ?_⟩
  · have := Int.emod_nonneg d (show (n : Int) ≠ 0 by omega)
    have := Int.emod_lt_of_pos d (show (0 : Int) < n by omega)
    omega
  · have := Int.emod_nonneg d (show (n : Int) ≠ 0 by omega)
    omega
end VL
end

section
/-! VO: defs that return structures of their own (lists, dicts), and calls of such. -/
namespace VL
open PySem PySem.Spec PyProof.Rows L2
section
variable {K : KW} {W0 : Wd} {E : XK} {b : Bool}
/-- return x, x a list or a structure of one's own -/
def gRetO (i : Nat) : GS := fun c => match c[i]? with
  | some (some (.own ds)) => some (.own (.lst (ds.map T.leaf)))
  | some (some (.tre _ t)) => some (.own t)
  | _ => none
theorem vs_retO (i : Nat) : VS K W0 E (tRet (tVar i)) (gRetO i) := by
  intro W σ c D k u s q
  unfold gRetO at q
  split at q
  · rename_i ds hc
    obtain ⟨x, hx, l, vs, rfl, h1, h2, h3, h4, h5⟩ := s.at hc
    exact ⟨_, hx, q W _ [l] k u (Same.refl _) (.lst h1 h2 h3 h4 (tokL_leaves h5)) (by simp)⟩
  · rename_i t hc
    obtain ⟨x, hx, v, as, rfl, h1, h2⟩ := s.at hc
    exact ⟨_, hx, q W v as k u (Same.refl _) h1 h2.1⟩
  · exact q.elim
/-- return of a new structure -/
def gRetT (g : Env → Option T) : GS := fun c => match g c with
  | some t => some (.own t)
  | none => none
theorem vs_retT {te : TE} {g : Env → Option T} (h : VTr K W0 te g) : VS K W0 E (tRet te) (gRetT g) := by
  intro W σ c D k u s q
  unfold gRetT at q
  cases e : g c with
  | none => rw [e] at q; exact q.elim
  | some t =>
    rw [e] at q
    exact h W σ c t _ k u s e fun W' v as k' g' d n _ => q W' v as k' (u.gr g') g'.f d n
/-- what such a def promises -/
def spO (K : KW) (m : List D → Option T) : Sp := fun vs H Q _ => ∃ (F : Hp) (ds : List D) (t : T), Same F H ∧ DenL K F vs ds ∧ m ds = some t ∧
  ∀ W' v as, WOk W' → Up ⟨H, F, F⟩ W' → TOk K ⟨H, F, F⟩ W' v t as → as.Nodup → Q v W'.H
def moOf (n nn : Nat) (g : GS) : List D → Option T := fun ds => if ds.length = n then match g (envOf nn ds) with
  | some (.own t) => some t
  | _ => none else none
theorem moOf_len {n nn : Nat} {g : GS} {ds : List D} {t : T} (h : moOf n nn g ds = some t) : ds.length = n ∧ g (envOf nn ds) = some (.own t) := by
  unfold moOf at h
  split at h
  · refine ⟨by assumption, ?_⟩
    split at h
    · rename_i t' e; cases h; exact e
    · cases h
  · cases h
theorem spO_len {m : List D → Option T} {n : Nat} (hm : ∀ ds r, m ds = some r → ds.length = n) : ∀ vs H Q E, spO K m vs H Q E → vs.length = n := by
  rintro vs H Q E' ⟨F, ds, t, hF, hd, e, _⟩
  rw [hd.length]
  exact hm ds _ e
theorem run_defO {N : List Str} {n nn : Nat} {ts : TS} {g : GS} {vs : List V} {H : Hp} {Q : VK} (hN : N.length = nn) (hv : ∀ W0, VS K W0 E ts g) (h : spO K (moOf n nn g) vs H Q E) : ts { nx := fun _ H' => Q .non H', rt := Q } (L2.start N vs) H := by
  obtain ⟨F, ds, t, hF, hd, e, q⟩ := h
  obtain ⟨hl, e⟩ := moOf_len e
  subst hN
  refine hv ⟨H, F, F⟩ ⟨H, F, F⟩ (L2.start N vs) (envOf N.length ds) _ ⟨Same.refl _, hF, fun _ _ e _ => e⟩ ⟨Same.refl _, Same.refl _, fun _ _ _ => rfl⟩ (sd_start hd) ?_
  rw [e]
  exact fun W v as k u f h1 h2 => q W v as k u h1 h2
/-- behind such a call -/
def Wd.beh (W W' : Wd) : Wd := ⟨W'.H, fun a => match W.H a with
  | some _ => W.G a
  | none => W'.G a, fun a => match W.H a with
  | some _ => W.F a
  | none => W'.F a⟩
theorem beh_ok {W W' : Wd} (k : WOk W) (k' : WOk W') (u : Up ⟨W.H, W.F, W.F⟩ W') : WOk (W.beh W') ∧ Gr W (W.beh W') ∧ Same W'.F (W.beh W').F ∧ ∀ a, W.H a = none → (W.beh W').H a = W'.H a ∧ (W.beh W').G a = W'.G a ∧ (W.beh W').F a = W'.F a := by
  have g1 : ∀ a o, W.H a = some o → (W.beh W').G a = W.G a := fun a o e => by
    show (match W.H a with | some _ => W.G a | none => W'.G a) = _
    rw [e]
  have f1 : ∀ a o, W.H a = some o → (W.beh W').F a = W.F a := fun a o e => by
    show (match W.H a with | some _ => W.F a | none => W'.F a) = _
    rw [e]
  have g2 : ∀ a, W.H a = none → (W.beh W').G a = W'.G a := fun a e => by
    show (match W.H a with | some _ => W.G a | none => W'.G a) = _
    rw [e]
  have f2 : ∀ a, W.H a = none → (W.beh W').F a = W'.F a := fun a e => by
    show (match W.H a with | some _ => W.F a | none => W'.F a) = _
    rw [e]
  refine ⟨⟨fun a o e => ?_, fun a o e => ?_, fun a xs e ht => ?_⟩, ⟨u.h, fun a o e => ?_, fun a o e => ?_, g1, f1⟩, fun a o e => ?_, fun a e => ⟨rfl, g2 a e, f2 a e⟩⟩
  · cases c : W.H a with
    | some x => rw [f1 a x c] at e; rw [g1 a x c]; exact k.fg a o e
    | none => rw [f2 a c] at e; rw [g2 a c]; exact k'.fg a o e
  · cases c : W.H a with
    | some x => rw [g1 a x c] at e; exact u.h a o (k.gh a o e)
    | none => rw [g2 a c] at e; exact k'.gh a o e
  · cases c : W.H a with
    | some x => rw [g1 a x c] at e; rw [f1 a x c]; exact k.gt a xs e ht
    | none => rw [g2 a c] at e; rw [f2 a c]; exact k'.gt a xs e ht
  · rw [g1 a o (k.gh a o e)]; exact e
  · rw [f1 a o (k.fh a o e)]; exact e
  · cases c : W.H a with
    | some x => rw [f1 a x c, ← u.fo a x c]; exact e
    | none => rw [f2 a c]; exact e
/-- the call -/
def gFnT (m : List D → Option T) (ga : GA) : Env → Option T := fun c => match ga c with
  | some ds => m ds
  | none => none
theorem vtr_call {m : List D → Option T} {ts : TA} {gs : GA} {E' : XK} (h : VArg K W0 true ts gs) : VTr K W0 (tCall (spO K m) [] E' ts) (gFnT m gs) := by
  intro W σ c t Q k u s e q
  unfold gFnT at e
  split at e
  · rename_i ds hds
    refine h W σ c ds _ k u s hds fun W1 vs k1 g1 d1 => ?_
    rw [List.append_nil]
    refine ⟨W1.F, ds, t, k1.fh, d1, e, fun W' v as k' u' ht hn => ?_⟩
    obtain ⟨k2, g2, f2, m2⟩ := beh_ok k1 k' u'
    have fr : ∀ l ∈ as, W1.H l = none := fun l hl => (TOk.there t v as ht l hl).2.2
    refine q (W1.beh W') v as k2 (g1.trans g2) ?_ hn fun l hl => g1.h.free (fr l hl)
    exact TOk.move (W0 := ⟨W1.H, W1.F, W1.F⟩) (W0' := W0) f2 (fun l hl => (u.gr g1).h.free hl) t v as (fun l hl => m2 l (fr l hl)) ht
  · cases e
/-- .. of which a list is wanted -/
def gFnO (m : List D → Option T) (ga : GA) : GA := fun c => match gFnT m ga c with
  | some (.lst ts) => leafs ts
  | _ => none
where leafs : List T → Option (List D)
  | [] => some []
  | .leaf d :: ts => (leafs ts).map (d :: ·)
  | _ => none
theorem leafs_map : ∀ (ts : List T) (ds : List D), gFnO.leafs ts = some ds → ts = ds.map T.leaf
  | [], ds, h => by cases h; rfl
  | .leaf d :: ts, ds, h => by
    simp only [gFnO.leafs, Option.map_eq_some_iff] at h
    obtain ⟨es, h1, rfl⟩ := h
    rw [leafs_map ts es h1]; rfl
  | .lst _ :: _, _, h => by cases h
  | .tup _ :: _, _, h => by cases h
  | .dct _ _ _ :: _, _, h => by cases h
  | .obj _ _ _ _ :: _, _, h => by cases h
theorem leafs_of : ∀ ds : List D, gFnO.leafs (ds.map T.leaf) = some ds
  | [] => rfl
  | d :: ds => by
    show Option.map _ (gFnO.leafs (ds.map T.leaf)) = _
    rw [leafs_of ds]; rfl
theorem tokL_denL {W : Wd} : ∀ {ds : List D} {vs : List V} {as : List Addr}, TOkL K W0 W vs (ds.map T.leaf) as → DenL K W.F vs ds ∧ as = []
  | [], _, _, h => by cases h; exact ⟨.nil, rfl⟩
  | d :: ds, _, _, h => by
    cases h with
    | cons h1 h2 =>
      cases h1 with
      | leaf hd =>
        obtain ⟨a, rfl⟩ := tokL_denL h2
        exact ⟨.cons hd a, rfl⟩
theorem vn_call {m : List D → Option T} {ts : TA} {gs : GA} {E' : XK} (h : VArg K W0 true ts gs) : VN K W0 (tCall (spO K m) [] E' ts) (gFnO m gs) := by
  intro W σ c ds Q k u s e q
  unfold gFnO at e
  split at e
  · rename_i ts' ht
    have := leafs_map _ _ e
    subst this
    refine vtr_call h W σ c _ Q k u s ht fun W' v as k' g' ho hn hf => ?_
    cases ho with
    | @lst l vs _ as' h1 h2 h3 h4 h5 =>
      obtain ⟨hd, rfl⟩ := tokL_denL h5
      have hl : W.H l = none := hf l (by simp)
      have e5 : W'.H = upd (fun a => if a = l then none else W'.H a) l (.lst vs) := by
        funext a
        unfold upd
        by_cases ha : a = l
        · rw [if_pos ha, ha]; exact h1
        · rw [if_neg ha]; exact (if_neg ha).symm
      rw [e5]
      refine q ⟨fun a => if a = l then none else W'.H a, fun a => if a = l then none else W'.G a, W'.F⟩ l vs ⟨fun a o e => ?_, fun a o e => ?_, fun a xs e ht => ?_⟩ ⟨fun a o e => ?_, fun a o e => ?_, g'.f, fun a o e => ?_, g'.fo⟩ (if_pos rfl) hd
      · show (if a = l then none else W'.G a) = some o
        rw [if_neg (fun z => by rw [z, h3] at e; cases e)]; exact k'.fg a o e
      · have e' : (if a = l then none else W'.G a) = some o := e
        by_cases ha : a = l
        · rw [if_pos ha] at e'; cases e'
        · rw [if_neg ha] at e'
          show (if a = l then none else W'.H a) = some o
          rw [if_neg ha]; exact k'.gh a o e'
      · have e' : (if a = l then none else W'.G a) = some xs := e
        by_cases ha : a = l
        · rw [if_pos ha] at e'; cases e'
        · rw [if_neg ha] at e'
          exact k'.gt a xs e' ht
      · show (if a = l then none else W'.H a) = some o
        rw [if_neg (fun z => by rw [z, hl] at e; cases e)]; exact g'.h a o e
      · show (if a = l then none else W'.G a) = some o
        rw [if_neg (fun z => by rw [z] at e; have := k.gh _ _ e; rw [hl] at this; cases this)]; exact g'.g a o e
      · show (if a = l then none else W'.G a) = W.G a
        rw [if_neg (fun z => by rw [z, hl] at e; cases e)]; exact g'.go a o e
  · cases e
end
/-! in the plain part -/
theorem wp_retO {c : Env} {P : Out → Prop} {i : Nat} {ds : List D} (hc : c[i]? = some (some (.own ds))) (hP : P (.own (.lst (ds.map T.leaf)))) : Wp (gRetO i) c P := ⟨_, by unfold gRetO; rw [hc], hP⟩
theorem wp_retOt {c : Env} {P : Out → Prop} {i : Nat} {t : T} {a : Option Nat} (hc : c[i]? = some (some (.tre a t))) (hP : P (.own t)) : Wp (gRetO i) c P := ⟨_, by unfold gRetO; rw [hc], hP⟩
theorem wp_retT {c : Env} {P : Out → Prop} {g : Env → Option T} {t : T} (h : g c = some t) (hP : P (.own t)) : Wp (gRetT g) c P := ⟨_, by unfold gRetT; rw [h], hP⟩
theorem mo_val {n nn : Nat} {g : GS} {ds : List D} {t : T} (hl : ds.length = n) (h : Wp g (VL.envOf nn ds) (fun o => o = .own t)) : moOf n nn g ds = some t := by
  obtain ⟨o, h1, rfl⟩ := h
  unfold moOf
  rw [if_pos hl, h1]
theorem mo_ex {n nn : Nat} {g : GS} {ds : List D} {S : T → Prop} (hl : ds.length = n) (h : Wp g (VL.envOf nn ds) (fun o => ∃ t, o = .own t ∧ S t)) : ∃ t, moOf n nn g ds = some t ∧ S t := by
  obtain ⟨o, h1, t, rfl, h2⟩ := h
  exact ⟨t, by unfold moOf; rw [if_pos hl, h1], h2⟩
theorem e_fnO {c : Env} {m : List D → Option T} {ga : GA} {ds es : List D} (h : ga c = some ds) (hm : m ds = some (.lst (es.map T.leaf))) : gFnO m ga c = some es := by
  unfold gFnO gFnT
  rw [h]
  show (match m ds with | some (.lst ts) => gFnO.leafs ts | _ => none) = _
  rw [hm]
  exact leafs_of es
theorem e_fnT {c : Env} {m : List D → Option T} {ga : GA} {ds : List D} {t : T} (h : ga c = some ds) (hm : m ds = some t) : gFnT m ga c = some t := by
  unfold gFnT
  rw [h]; exact hm
end VL
end

section
/-! VW: places within structures of one's own: read, changed. -/
namespace VL
open PySem PySem.Spec PyProof.Rows L2
section
variable {K : KW} {E : XK} {W0 : Wd}
/-! ### p[k] -/
def kIx (b : Bool) (ks : List D) (k : NestedKey) : Option Nat := ks.findIdx? fun x => decide (x.kk b = some k)
theorem valV_ix (key : L2.Key) : ∀ (kvs : List (L2.Key × V)) (n : Nat), kIx false (kvs.map fun p => kD p.1) (nkK key) = some n → valV kvs key = (kvs.map (·.2))[n]?
  | [], _, h => by simp [kIx] at h
  | p :: kvs, n, h => by
    unfold kIx at h
    rw [List.map_cons, List.findIdx?_cons, kk_kD] at h
    by_cases e : p.1 = key
    · rw [decide_eq_true (by rw [e])] at h
      simp only [if_true] at h
      cases h
      rw [valV_pos e]; rfl
    · rw [decide_eq_false (fun z => e (nkK_inj (Option.some.inj z)))] at h
      simp only [Bool.false_eq_true, if_false, Option.map_eq_some_iff] at h
      obtain ⟨m, hm, rfl⟩ := h
      rw [valV_neg e, valV_ix key kvs m hm]; rfl
theorem valN_ix (k : NestedKey) : ∀ (xs : List NE) (ks : List D) (vs : List V) (n : Nat), ks.map (D.kk true) = xs.map (fun x => some x.1) → Vals vs (xs.map (·.2.2)) → kIx true ks k = some n → valN xs k = vs[n]?
  | [], ks, vs, n, e, r, h => by
    cases ks with
    | nil => simp [kIx] at h
    | cons _ _ => simp at e
  | x :: xs, ks, vs, n, e, r, h => by
    cases ks with
    | nil => simp at e
    | cons y ks =>
      rw [List.map_cons] at r
      cases r with
      | cons r1 r2 =>
        simp only [List.map_cons, List.cons.injEq] at e
        unfold kIx at h
        rw [List.findIdx?_cons, e.1] at h
        by_cases q : x.1 = k
        · rw [decide_eq_true (by rw [q])] at h
          simp only [if_true] at h
          cases h
          rw [valN_pos q, r1.abs]; rfl
        · rw [decide_eq_false (fun z => q (Option.some.inj z))] at h
          simp only [Bool.false_eq_true, if_false, Option.map_eq_some_iff] at h
          obtain ⟨m, hm, rfl⟩ := h
          rw [valN_neg q, valN_ix k xs ks _ m e.2 r2 hm]; rfl
theorem kIx_none {b : Bool} {ks : List D} {k : NestedKey} (h : kIx b ks k = none) : dHas b ks k = false := by
  unfold kIx at h
  rw [List.findIdx?_eq_none_iff] at h
  unfold dHas
  rw [List.any_eq_false]
  exact fun x hx => by simpa using h x hx
theorem kIx_lt {b : Bool} {ks : List D} {k : NestedKey} {n : Nat} (h : kIx b ks k = some n) : n < ks.length := by
  unfold kIx at h
  exact (List.findIdx?_eq_some_iff_getElem.mp h).1
/-- a dict of one's own, at a key -/
theorem tok_get {W : Wd} (k : WOk W) {b : Bool} {ks : List D} {ts : List T} {l : V} {as : List Addr} (h : TOk K W0 W l (.dct b ks ts) as) {W' : Wd} (g : Gr W W') (k' : WOk W') {x : V} {d : D} {ky : NestedKey} (hx : Den K W'.G x d) (hk : d.kk b = some ky) :
    ∃ a vs, l = .ref a ∧ IsDX K.k K.w W.H a ∧ DGetX K.k K.w W'.H a x (match kIx b ks ky with | some n => vs[n]? | none => none) ∧ dctVals K W l b vs := by
  cases h with
  | @dK a kvs _ _ bs h1 h2 h3 h4 h5 h6 =>
    obtain ⟨key, rfl, rfl⟩ : ∃ key : L2.Key, x = kV key ∧ ky = nkK key := by
      cases d with
      | int i => cases hk; cases hx; exact ⟨.inl i, rfl, rfl⟩
      | str s => cases hk; cases hx; exact ⟨.inr s, rfl, rfl⟩
      | _ => cases hk
    obtain ⟨h5, _⟩ := h5
    subst h5
    have e : (match kIx false (kvs.map fun p => kD p.1) (nkK key) with | some n => (kvs.map (·.2))[n]? | none => none) = valV kvs key := by
      cases hn : kIx false (kvs.map fun p => kD p.1) (nkK key) with
      | some n => exact (valV_ix key kvs n hn).symm
      | none =>
        have := kIx_none hn
        have r := rel_K (K := K) (H := W.G) key kvs (kvs.map fun _ => D.non)
        show none = _
        cases hv : valV kvs key with
        | none => rfl
        | some v =>
          exfalso
          have hm := valV_in hv
          simp only [List.mem_map] at hm
          obtain ⟨p, hp, hpk⟩ := hm
          unfold dHas at this
          rw [List.any_eq_false] at this
          exact this (kD p.1) (List.mem_map.mpr ⟨p, hp, rfl⟩) (by rw [kk_kD, hpk]; simp)
    exact ⟨a, kvs.map (·.2), rfl, .inl ⟨kvs, .inl h1⟩, by rw [e]; exact .inl (.inl ⟨kvs, key, .inl (g.h _ _ h1), rfl, rfl⟩), ⟨a, rfl, .inl ⟨rfl, kvs, h1, rfl⟩⟩⟩
  | @dN a xs vs _ _ bs h1 h2 h3 h4 h5 h6 h7 h8 h9 =>
    obtain ⟨p, rfl, e2⟩ := den_kk hx hk
    have l1 := h6.length
    have l3 := Vals.length h8
    have e : (match kIx true ks ky with | some n => vs[n]? | none => none) = valN xs ky := by
      cases hn : kIx true ks ky with
      | some n => exact (valN_ix ky xs ks vs n h7 h8 hn).symm
      | none =>
        have q1 := kIx_none hn
        show none = _
        cases hv : valN xs ky with
        | none => rfl
        | some v =>
          exfalso
          unfold valN at hv
          simp only [Option.bind_eq_some_iff] at hv
          obtain ⟨q, hq, _⟩ := hv
          unfold atKey at hq
          simp only [Option.map_eq_some_iff] at hq
          obtain ⟨z, hz, _⟩ := hq
          have hm := List.mem_of_find?_eq_some hz
          have hz1 := List.find?_some hz
          simp only [decide_eq_true_eq] at hz1
          have : some z.1 ∈ ks.map (D.kk true) := by rw [h7]; exact List.mem_map.mpr ⟨z, hm, rfl⟩
          obtain ⟨y, hy, hyk⟩ := List.mem_map.mp this
          unfold dHas at q1
          rw [List.any_eq_false] at q1
          exact q1 y hy (by rw [hyk, hz1]; simp)
    have dn : DN K.k K.w W.H a xs := ⟨.inl h1, fun z hz => by
      have := denL_nk_at xs ks h6 h7 z hz
      exact ⟨nk_same k.fh this.1, this.2⟩⟩
    exact ⟨a, vs, rfl, .inr ⟨xs, dn⟩, by rw [e]; exact .inr ⟨xs, vs, ky, p, ⟨.inl (g.h _ _ h1), fun z hz => ⟨nk_same g.h (dn.2 z hz).1, (dn.2 z hz).2⟩⟩, h8, rfl, ⟨nk_same k'.gh e2.1, e2.2⟩, rfl⟩, ⟨a, rfl, .inr ⟨rfl, xs, h1, h5, h8⟩⟩⟩
def gpIx (gp : Env → Option (Nat × List Nat)) (gk : GE) : Env → Option (Nat × List Nat) := fun c => match atP gp c with
  | some (i, π, _, .lst ts) => match gk c with
    | some (.int j) => match ixN ts.length j with
      | some n => if n < ts.length then some (i, π ++ [n]) else none
      | none => none
    | _ => none
  | some (i, π, _, .tup ts) => match gk c with
    | some (.int j) => match ixN ts.length j with
      | some n => if n < ts.length then some (i, π ++ [n]) else none
      | none => none
    | _ => none
  | some (i, π, _, .dct b ks ts) => match gk c with
    | some d => match d.kk b with
      | some k => match kIx b ks k with
        | some n => if n < ts.length then some (i, π ++ [n]) else none
        | none => none
      | none => none
    | none => none
  | _ => none
theorem vp_ix {te tk : TE} {b : Bool} {gp : Env → Option (Nat × List Nat)} {gk : GE} (h : VP K W0 te gp) (hk : VT K W0 b tk gk) : VP K W0 (tOp (rIxU K.k K.w) te tk) (gpIx gp gk) := by
  intro W σ c i π Q k u s e q
  unfold gpIx at e
  split at e
  · rename_i j ρ t ts ha
    obtain ⟨a0, e1, e2, e3⟩ := atP_some ha
    split at e
    · rename_i z hz
      split at e
      · rename_i n hn
        split at e
        · rename_i hlt
          cases e
          refine h W σ c i ρ _ k u s e1 fun W' v0 v1 t0 t1 as a1 a2 a3 k' g' h1 h2 h3 h4 h5 h6 => ?_
          obtain ⟨_, h1⟩ := h1; rw [e2] at h1; cases h1
          rw [e3] at h3; cases h3
          refine hk W' σ c _ _ k' (u.gr g') (s.gr g') hz fun W2 x k2 g2 hx => ?_
          cases hx
          have hkd : (T.lst ts).kids[n]? = some ts[n] := List.getElem?_eq_getElem hlt
          obtain ⟨v2, b1, b2, b3, f2, vs, hv, hl0, _, _, _⟩ := (h6.gr g2 h4).snoc e3 hkd
          obtain ⟨l, hl1, hl⟩ := hl0 _ rfl
          subst hl1
          have hlen : vs.length = ts.length := by
            have := h6.2.1
            cases this with
            | lst q1 q2 q3 q4 q5 =>
              have := g2.h _ _ q1
              rw [hl] at this
              cases this
              exact TOkL.length q5
          refine .inl (.inl ⟨l, vs, z, v2, rfl, rfl, SqL.of hl, ?_, q W2 v0 v2 t _ as b1 b2 b3 k2 (g'.trans g2) ⟨_, e2⟩ h2 (sub_snoc ρ n t _ _ e3 hkd) (h4.gr g2) h5 f2⟩)
          unfold atI
          rw [hlen, hn]
          exact hv
        · cases e
      · cases e
    · cases e
  · rename_i j ρ t ts ha
    obtain ⟨a0, e1, e2, e3⟩ := atP_some ha
    split at e
    · rename_i z hz
      split at e
      · rename_i n hn
        split at e
        · rename_i hlt
          cases e
          refine h W σ c i ρ _ k u s e1 fun W' v0 v1 t0 t1 as a1 a2 a3 k' g' h1 h2 h3 h4 h5 h6 => ?_
          obtain ⟨_, h1⟩ := h1; rw [e2] at h1; cases h1
          rw [e3] at h3; cases h3
          refine hk W' σ c _ _ k' (u.gr g') (s.gr g') hz fun W2 x k2 g2 hx => ?_
          cases hx
          have hkd : (T.tup ts).kids[n]? = some ts[n] := List.getElem?_eq_getElem hlt
          obtain ⟨v2, b1, b2, b3, f2, vs, hv, _, hl0, _, _⟩ := (h6.gr g2 h4).snoc e3 hkd
          obtain ⟨l, hl1, hl⟩ := hl0 _ rfl
          subst hl1
          have hlen : vs.length = ts.length := by
            have := h6.2.1
            cases this with
            | tup q1 q5 =>
              have := g2.f _ _ q1
              rw [hl] at this
              cases this
              exact TOkL.length q5
          refine .inl (.inr (.inl ⟨l, vs, z, v2, rfl, rfl, SqT.of (k2.fh _ _ hl), ?_, q W2 v0 v2 t _ as b1 b2 b3 k2 (g'.trans g2) ⟨_, e2⟩ h2 (sub_snoc ρ n t _ _ e3 hkd) (h4.gr g2) h5 f2⟩))
          unfold atI
          rw [hlen, hn]
          exact hv
        · cases e
      · cases e
    · cases e
  · rename_i j ρ t b' ks ts ha
    obtain ⟨a0, e1, e2, e3⟩ := atP_some ha
    split at e
    · rename_i d hd
      split at e
      · rename_i ky hky
        split at e
        · rename_i n hn
          split at e
          · rename_i hlt
            cases e
            refine h W σ c i ρ _ k u s e1 fun W' v0 v1 t0 t1 as a1 a2 a3 k' g' h1 h2 h3 h4 h5 h6 => ?_
            obtain ⟨_, h1⟩ := h1; rw [e2] at h1; cases h1
            rw [e3] at h3; cases h3
            refine hk W' σ c _ _ k' (u.gr g') (s.gr g') hd fun W2 x k2 g2 hx => ?_
            have hkd : (T.dct b' ks ts).kids[n]? = some ts[n] := List.getElem?_eq_getElem hlt
            obtain ⟨a, vs, ea, _, hg, hdv⟩ := tok_get k2 (h6.2.1.gr g2) (Gr.refl W2) k2 (hx.up (k2.atG b)) hky
            obtain ⟨v2, b1, b2, b3, f2, vs', hv, _, _, _, hdv'⟩ := (h6.gr g2 h4).snoc e3 hkd
            have ev := dctVals_det hdv (hdv' _ _ _ rfl)
            subst ev ea
            rw [hn] at hg
            have hg' : DGetX K.k K.w W2.H a x vs[n]? := hg
            rw [hv] at hg'
            exact .inr ⟨a, v2, rfl, hg', q W2 v0 v2 t _ as b1 b2 b3 k2 (g'.trans g2) ⟨_, e2⟩ h2 (sub_snoc ρ n t _ _ e3 hkd) (h4.gr g2) h5 f2⟩
          · cases e
        · cases e
      · cases e
    · cases e
  · cases e
end
end VL
end

section
/-! VW2: what is done at places: a list grows, an item, an entry, a field is set; what stands there is read. -/
namespace VL
open PySem PySem.Spec PyProof.Rows L2
section
variable {K : KW} {E : XK} {W0 : Wd}
theorem tokL_snoc {W : Wd} : ∀ {ts : List T} {vs : List V} {as : List Addr} {t : T} {v : V} {bs : List Addr}, TOkL K W0 W vs ts as → TOk K W0 W v t bs → TOkL K W0 W (vs ++ [v]) (ts ++ [t]) (as ++ bs)
  | [], _, _, t, v, bs, h, g => by
    cases h
    have := TOkL.cons g .nil
    simpa using this
  | _ :: ts, _, _, t, v, bs, h, g => by
    cases h with
    | cons h1 h2 =>
      have := TOkL.cons h1 (tokL_snoc h2 g)
      simpa using this
theorem fresh_noHold {W W' : Wd} {σ : L2.St} {c : Env} (s : SD K W0 W σ c) (g : Gr W W') {a : Addr} (h : W.H a = none) : ∀ (j : Nat) x y, σ[j]? = some x → c[j]? = some y → ¬ Holds K W0 W' x y a := by
  intro j x y h1 h2 hh
  have h8 : Holds K W0 W x y a := by
    rcases hh with hh | ⟨_, t, v3, as3, rfl, rfl, h9, h10⟩
    · exact .inl hh
    · obtain ⟨v4, bs, e4, h11, _⟩ := s.ok j _ _ h1 h2
      cases e4
      rw [TOk.det t v3 as3 bs h9 (h11.gr g)] at h10
      exact .inr ⟨_, t, v3, bs, rfl, rfl, h11, h10⟩
  obtain ⟨o, ho⟩ := hold_there s h1 h2 h8
  rw [h] at ho; cases ho
theorem put_at {W : Wd} {σ : L2.St} {c : Env} {i : Nat} {π : List Nat} {t t1 t1' : T} {v0 : V} {l : Addr} {as a1 a2 a3 b2 : List Addr} {o : HO} {a0 : Option Nat} (k : WOk W) (u : Up W0 W) (s : SD K W0 W σ c) (hc : c[i]? = some (some (.tre a0 t))) (hσ : σ[i]? = some (some v0))
    (ht : TOk K W0 W v0 t as) (hn : as.Nodup) (f : Foc K W0 W v0 t as π (.ref l) t1 a1 a2 a3) (hl : l ∈ a2) (ho : likeO W l o) (ht' : TOk K W0 (W.wt l o) (.ref l) t1' b2) (hbn : b2.Nodup)
    (hb2 : ∀ a ∈ b2, a ∈ a2 ∨ ∀ (j : Nat) x y, σ[j]? = some x → c[j]? = some y → ¬ Holds K W0 W x y a) :
    WOk (W.wt l o) ∧ Up W0 (W.wt l o) ∧ SD K W0 (W.wt l o) σ (setT c i (T.put π t1' t)) := by
  rw [setT_at hc]
  obtain ⟨e, h2, h3⟩ := f
  subst e
  have hn' := hn
  rw [List.nodup_append, List.nodup_append] at hn
  obtain ⟨⟨n1, n2, n3⟩, n4, n5⟩ := hn
  have nel : ∀ a ∈ a1 ++ a3, a ≠ l := fun a ha z => by
    subst z
    rcases List.mem_append.mp ha with q | q
    · exact n3 a q a hl rfl
    · exact n5 a (List.mem_append_right _ hl) a q rfl
  have full := h3 (W.wt l o) t1' b2 (Same.refl _) (fun a ha => ⟨upd_ne (nel a ha), gUp_ne (nel a ha), rfl⟩) ht'
  have hold : ∀ a ∈ a1 ++ a3, Holds K W0 W (some v0) (some (.tre a0 t)) a := fun a ha => .inr ⟨_, t, v0, _, rfl, rfl, ht, by
    rcases List.mem_append.mp ha with q | q <;> simp [q]⟩
  refine wr_tre k u s hσ hc ht (by simp [hl]) ho full ?_ ?_
  · rw [List.nodup_append, List.nodup_append]
    refine ⟨⟨n1, hbn, fun a ha b hb z => ?_⟩, n4, fun a ha b hb z => ?_⟩
    · subst z
      rcases hb2 a hb with q | q
      · exact n3 a ha a q rfl
      · exact q i _ _ hσ hc (hold a (by simp [ha]))
    · subst z
      rcases List.mem_append.mp ha with h | h
      · exact n5 a (List.mem_append_left _ h) a hb rfl
      · rcases hb2 a h with q | q
        · exact n5 a (List.mem_append_right _ q) a hb rfl
        · exact q i _ _ hσ hc (hold a (by simp [hb]))
  · intro a ha
    rcases List.mem_append.mp ha with h | h
    · rcases List.mem_append.mp h with h | h
      · exact .inl (by simp [h])
      · rcases hb2 a h with q | q
        · exact .inl (by simp [q])
        · exact .inr q
    · exact .inl (by simp [h])
/-! reading -/
def gView (gp : Env → Option (Nat × List Nat)) : GE := fun c => match atP gp c with
  | some (_, _, _, t1) => if t1.plain = true then some t1.view else none
  | none => none
theorem vt_view {te : TE} {gp : Env → Option (Nat × List Nat)} (h : VP K W0 te gp) : VT K W0 false te (gView gp) := by
  intro W σ c d Q k u s e q
  unfold gView at e
  split at e
  · rename_i i π t t1 ha
    split at e
    · rename_i hp
      cases e
      obtain ⟨a0, e1, e2, e3⟩ := atP_some ha
      refine h W σ c i π _ k u s e1 fun W' v0 v1 t0 t2 as a1 a2 a3 k' g' h1 h2 h3 h4 h5 h6 => ?_
      obtain ⟨_, h1⟩ := h1; rw [e2] at h1; cases h1
      rw [e3] at h3; cases h3
      exact q W' v1 k' g' (TOk.den k' _ _ _ hp h6.2.1)
    · cases e
  · cases e
/-- a settled leaf -/
def gLeafP (gp : Env → Option (Nat × List Nat)) : GE := fun c => match atP gp c with
  | some (_, _, _, .leaf d) => some d
  | _ => none
theorem vt_leafP {b : Bool} {te : TE} {gp : Env → Option (Nat × List Nat)} (h : VP K W0 te gp) : VT K W0 b te (gLeafP gp) := by
  intro W σ c d Q k u s e q
  unfold gLeafP at e
  split at e
  · rename_i i π t d' ha
    cases e
    obtain ⟨a0, e1, e2, e3⟩ := atP_some ha
    refine h W σ c i π _ k u s e1 fun W' v0 v1 t0 t2 as a1 a2 a3 k' g' h1 h2 h3 h4 h5 h6 => ?_
    obtain ⟨_, h1⟩ := h1; rw [e2] at h1; cases h1
    rw [e3] at h3; cases h3
    cases h6.2.1 with
    | leaf hd => exact q W' v1 k' g' (hd.up (by cases b; exact k'.fg; exact Same.refl _))
  · cases e
/-! p.append(e) -/
def gPApp (gp : Env → Option (Nat × List Nat)) (gt : Env → Option T) : GS := fun c => match atP gp c with
  | some (i, π, t, .lst ts) => match gt c with
    | some x => if ts.length < sizeLine then some (.nx (setT c i (T.put π (.lst (ts ++ [x])) t))) else none
    | none => none
  | _ => none
theorem nodup_own {as a1 a2 a3 bs : List Addr} {l : Addr} (hn : as.Nodup) (e : as = a1 ++ a2 ++ a3) (e2 : a2 = l :: bs) : l ∉ bs ∧ bs.Nodup := by
  subst e e2
  rw [List.nodup_append, List.nodup_append] at hn
  have := hn.1.2.1
  rw [List.nodup_cons] at this
  exact this
theorem vs_pApp {te tv : TE} {gp : Env → Option (Nat × List Nat)} {gt : Env → Option T} (hp : VP K W0 te gp) (hv : VTr K W0 tv gt) : VS K W0 E (tDrop (tBM K.k "list" rAppend te (tCons tv tNil))) (gPApp gp gt) := by
  intro W σ c D k u s q
  unfold gPApp at q
  split at q
  · rename_i i π t ts ha
    cases e : gt c with
    | none => rw [e] at q; exact q.elim
    | some x =>
      simp only [e] at q
      by_cases hz : ts.length < sizeLine
      · rw [if_pos hz] at q
        obtain ⟨a0, e1, e2, e3⟩ := atP_some ha
        refine hp W σ c i π _ k u s e1 fun W1 v0 v1 t0 t2 as a1 a2 a3 k1 g1 h1 h2 h3 h4 h5 h6 => ?_
        obtain ⟨_, h1⟩ := h1; rw [e2] at h1; cases h1
        rw [e3] at h3; cases h3
        cases hf : h6.2.1 with
        | @lst l vs _ bs q1 q2 q3 q4 q5 =>
          clear hf
          refine ⟨.inl ⟨rfl, _, SqL.of q1⟩, hv W1 σ c x _ k1 (u.gr g1) (s.gr g1) e fun W2 v as2 k2 g2 d2 n2 f2 => ?_⟩
          refine ⟨l, vs, v, rfl, rfl, g2.h _ _ q1, by rw [TOkL.length q5]; exact hz, ?_⟩
          obtain ⟨nl, nb⟩ := nodup_own h5 h6.1 rfl
          have nl2 : l ∉ as2 := fun z => by have := f2 l z; rw [q1] at this; cases this
          have mv : ∀ a, a ≠ l → (W2.wt l (.lst (vs ++ [v]))).H a = W2.H a ∧ (W2.wt l (.lst (vs ++ [v]))).G a = W2.G a ∧ (W2.wt l (.lst (vs ++ [v]))).F a = W2.F a := fun a ha => ⟨upd_ne ha, gUp_ne ha, rfl⟩
          have hG : W2.G l = some (.lst vs) := (g2.go _ _ q1).trans q2
          have hT : TOk K W0 (W2.wt l (.lst (vs ++ [v]))) (.ref l) (.lst (ts ++ [x])) (l :: (bs ++ as2)) := by
            refine .lst upd_same (gUp_some hG) ((g2.fo _ _ q1).trans q3) q4 (tokL_snoc ?_ ?_)
            · exact TOkL.move (W := W2) (W' := W2.wt l (.lst (vs ++ [v]))) (W0 := W0) (W0' := W0) (Same.refl _) (fun _ e => e) _ _ _ (fun a ha => mv a fun z => nl (z ▸ ha)) (q5.gr g2)
            · exact TOk.move (W := W2) (W' := W2.wt l (.lst (vs ++ [v]))) (W0 := W0) (W0' := W0) (Same.refl _) (fun _ e => e) _ _ _ (fun a ha => mv a fun z => nl2 (z ▸ ha)) d2
          have dis : ∀ a ∈ bs, ∀ b ∈ as2, a ≠ b := fun a ha b hb z => by
            subst z
            obtain ⟨⟨o, z, _⟩, _⟩ := TOkL.there _ _ _ q5 a ha
            rw [f2 a hb] at z; cases z
          obtain ⟨k3, u3, s3⟩ := put_at k2 ((u.gr g1).gr g2) ((s.gr g1).gr g2) e2 h2 (h4.gr g2) h5 (h6.gr g2 h4) (by simp) (.inl ⟨⟨_, hG⟩, rfl⟩) hT
            (by rw [List.nodup_cons, List.nodup_append]; exact ⟨by simp [nl, nl2], nb, n2, dis⟩) (fun a ha => by
              rcases List.mem_cons.mp ha with z | z
              · exact .inl (by simp [z])
              · rcases List.mem_append.mp z with z | z
                · exact .inl (by simp [z])
                · exact .inr (fresh_noHold (s.gr g1) g2 (f2 a z)))
          exact q (W2.wt l (.lst (vs ++ [v]))) σ k3 u3 (g1.f.trans g2.f) s3
      · rw [if_neg hz] at q; exact q.elim
  · exact q.elim
/-! p[k] = e -/
def rSetX (K : PySem.W.Frag) (w : World) : V → V → V → Hp → (Hp → Prop) → Prop := fun o i v H Q => rSetL o i v H Q ∨ ∃ a, o = .ref a ∧ DPutX K w H a i v Q
theorem set_X {X : Cx} (hu : X.A.units + 64 < cLine) : PSet X (rSetX X.K X.w) := by
  intro pins s σ H o i v ov iv uv Q I ro ri rv h
  rcases h with h | ⟨a, e, h⟩
  · exact set_list pins s σ H o i v ov iv uv Q I ro ri rv h
  · subst e
    obtain rfl : ov = Value.ref a := ro
    exact dx_setItem hu I h ri rv fun H' s' p I' => ⟨H', I', p⟩
theorem tokL_set {W : Wd} {ts : List T} {vs : List V} {as : List Addr} {n : Nat} {t x : T} {v : V} {bs : List Addr} (h : TOkL K W0 W vs ts as) (e : ts[n]? = some t) (g : TOk K W0 W v x bs) (hn : as.Nodup) (hbn : bs.Nodup) (hd : ∀ a ∈ as, ∀ b ∈ bs, a ≠ b) :
    ∃ cs, TOkL K W0 W (vs.set n v) (ts.set n x) cs ∧ cs.Nodup ∧ ∀ a ∈ cs, a ∈ as ∨ a ∈ bs := by
  induction ts generalizing vs as n with
  | nil => cases e
  | cons t0 ts ih =>
    cases h with
    | @cons v0 _ as0 vs _ as1 h1 h2 =>
      rw [List.nodup_append] at hn
      obtain ⟨n1, n2, n3⟩ := hn
      cases n with
      | zero =>
        refine ⟨bs ++ as1, .cons g h2, ?_, fun a ha => ?_⟩
        · rw [List.nodup_append]
          exact ⟨hbn, n2, fun a ha b hb z => hd b (by simp [hb]) a ha z.symm⟩
        · rcases List.mem_append.mp ha with h | h
          · exact .inr h
          · exact .inl (by simp [h])
      | succ n =>
        obtain ⟨cs, c1, c2, c3⟩ := ih h2 (by simpa using e) n2 (fun a ha b hb => hd a (by simp [ha]) b hb)
        refine ⟨as0 ++ cs, .cons h1 c1, ?_, fun a ha => ?_⟩
        · rw [List.nodup_append]
          refine ⟨n1, c2, fun a ha b hb z => ?_⟩
          rcases c3 b hb with q | q
          · exact n3 a ha b q z
          · exact hd a (by simp [ha]) b q z
        · rcases List.mem_append.mp ha with h | h
          · exact .inl (by simp [h])
          · rcases c3 a h with q | q
            · exact .inl (by simp [q])
            · exact .inr q
theorem putK_at {key : L2.Key} {v : V} : ∀ {kvs : List (L2.Key × V)} {n : Nat}, (kvs.map (·.1)).Nodup → (kvs.map (·.1))[n]? = some key → putK kvs key v = kvs.set n (key, v) := by
  intro kvs n hn he
  unfold putK
  have hany : (kvs.any fun kv => decide (kv.1 = key)) = true := by
    rw [List.any_eq_true]
    obtain ⟨p, hp, hpk⟩ := List.mem_map.mp (List.mem_of_getElem? he)
    exact ⟨p, hp, by simp [hpk]⟩
  rw [if_pos hany]
  clear hany
  induction kvs generalizing n with
  | nil => simp at he
  | cons p kvs ih =>
    rw [List.map_cons, List.nodup_cons] at hn
    cases n with
    | zero =>
      have hk : p.1 = key := by simpa using he
      rw [List.map_cons, if_pos hk]
      have : kvs.map (fun kv => if kv.1 = key then (kv.1, v) else kv) = kvs := by
        conv => rhs; rw [← List.map_id' kvs]
        refine List.map_congr_left fun q hq => ?_
        rw [if_neg]
        intro z
        exact hn.1 (by rw [hk, ← z]; exact List.mem_map.mpr ⟨q, hq, rfl⟩)
      rw [this, hk]; rfl
    | succ n =>
      have he' : (kvs.map (·.1))[n]? = some key := by simpa using he
      have hk : ¬ p.1 = key := fun z => hn.1 (by rw [z]; exact List.mem_of_getElem? he')
      rw [List.map_cons, if_neg hk, ih hn.2 he']; rfl
theorem storedH_at {k : NestedKey} {b : Addr} {u : Value} : ∀ {xs : List NE} {n : Nat}, (xs.map (·.1)).Nodup → (xs.map (·.1))[n]? = some k → (storedH xs k b u).map (·.1) = xs.map (·.1) ∧ (storedH xs k b u).map (fun x => x.2.1) = xs.map (fun x => x.2.1) ∧ (storedH xs k b u).map (·.2.2) = (xs.map (·.2.2)).set n u := by
  intro xs n hn he
  have hsome : (atKey xs k).isSome = true := by
    unfold atKey
    rw [Option.isSome_map, List.find?_isSome]
    obtain ⟨p, hp, hpk⟩ := List.mem_map.mp (List.mem_of_getElem? he)
    exact ⟨p, hp, by simp [hpk]⟩
  unfold storedH
  rw [if_pos hsome]
  clear hsome
  induction xs generalizing n with
  | nil => simp at he
  | cons p xs ih =>
    rw [List.map_cons, List.nodup_cons] at hn
    cases n with
    | zero =>
      have hk : p.1 = k := by simpa using he
      have : xs.map (putAt k u) = xs := by
        conv => rhs; rw [← List.map_id' xs]
        refine List.map_congr_left fun q hq => ?_
        unfold putAt
        rw [if_neg]
        intro z
        exact hn.1 (by rw [hk, ← z]; exact List.mem_map.mpr ⟨q, hq, rfl⟩)
      rw [List.map_cons, this]
      simp [putAt, hk]
    | succ n =>
      have he' : (xs.map (·.1))[n]? = some k := by simpa using he
      have hk : ¬ p.1 = k := fun z => hn.1 (by rw [z]; exact List.mem_of_getElem? he')
      obtain ⟨i1, i2, i3⟩ := ih hn.2 he'
      rw [List.map_cons]
      simp [putAt, hk, i1, i2, i3]
end
end VL
end

section
/-! VW3: p[k] = e, p.f = e, pop at a place, effects within expressions. -/
namespace VL
open PySem PySem.Spec PyProof.Rows L2
section
variable {K : KW} {E : XK} {W0 : Wd}
theorem wt_move {W : Wd} {l : Addr} {o : HO} {t : T} {v : V} {as : List Addr} (h : TOk K W0 W v t as) (hl : l ∉ as) : TOk K W0 (W.wt l o) v t as :=
  TOk.move (W := W) (W' := W.wt l o) (W0 := W0) (W0' := W0) (Same.refl _) (fun _ e => e) _ _ _ (fun a ha => ⟨upd_ne fun z => hl (z ▸ ha), gUp_ne fun z => hl (z ▸ ha), rfl⟩) h
theorem wt_moveL {W : Wd} {l : Addr} {o : HO} {t : List T} {v : List V} {as : List Addr} (h : TOkL K W0 W v t as) (hl : l ∉ as) : TOkL K W0 (W.wt l o) v t as :=
  TOkL.move (W := W) (W' := W.wt l o) (W0 := W0) (W0' := W0) (Same.refl _) (fun _ e => e) _ _ _ (fun a ha => ⟨upd_ne fun z => hl (z ▸ ha), gUp_ne fun z => hl (z ▸ ha), rfl⟩) h
theorem absV_rel {v : V} {u : Value} (h : RelV v u) : absV u = some v := h.abs
theorem kk_false {d : D} {ky : NestedKey} {x : V} {H : Hp} (h : d.kk false = some ky) (hx : Den K H x d) : ∃ key : L2.Key, x = kV key ∧ ky = nkK key ∧ d = kD key := by
  cases d with
  | int i => cases h; cases hx; exact ⟨.inl i, rfl, rfl, rfl⟩
  | str s => cases h; cases hx; exact ⟨.inr s, rfl, rfl, rfl⟩
  | _ => cases h
theorem kIx_at {b : Bool} {ks : List D} {k : NestedKey} {n : Nat} (h : kIx b ks k = some n) : (ks.map (D.kk b))[n]? = some (some k) := by
  unfold kIx at h
  obtain ⟨h1, h2, _⟩ := List.findIdx?_eq_some_iff_getElem.mp h
  simp at h2
  rw [List.getElem?_map, List.getElem?_eq_getElem h1]
  exact congrArg some h2
theorem valV_none {key : L2.Key} {kvs : List (L2.Key × V)} (hn : kIx false (kvs.map fun p => kD p.1) (nkK key) = none) : valV kvs key = none := by
  have := kIx_none hn
  cases hv : valV kvs key with
  | none => rfl
  | some v =>
    exfalso
    have hm := valV_in hv
    simp only [List.mem_map] at hm
    obtain ⟨p, hp, hpk⟩ := hm
    unfold dHas at this
    rw [List.any_eq_false] at this
    exact this (kD p.1) (List.mem_map.mpr ⟨p, hp, rfl⟩) (by rw [kk_kD, hpk]; simp)
theorem atKey_none {xs : List NE} {ks : List D} {ky : NestedKey} (h7 : ks.map (D.kk true) = xs.map (fun x => some x.1)) (hn : kIx true ks ky = none) : atKey xs ky = none := by
  have q1 := kIx_none hn
  cases hq : atKey xs ky with
  | none => rfl
  | some q =>
    exfalso
    unfold atKey at hq
    simp only [Option.map_eq_some_iff] at hq
    obtain ⟨z, hz, _⟩ := hq
    have hm := List.mem_of_find?_eq_some hz
    have hz1 := List.find?_some hz
    simp only [decide_eq_true_eq] at hz1
    have : some z.1 ∈ ks.map (D.kk true) := by rw [h7]; exact List.mem_map.mpr ⟨z, hm, rfl⟩
    obtain ⟨y, hy, hyk⟩ := List.mem_map.mp this
    unfold dHas at q1
    rw [List.any_eq_false] at q1
    exact q1 y hy (by rw [hyk, hz1]; simp)
/-- the dict behind d[k] = x -/
def dPut (b : Bool) (ks : List D) (ts : List T) (d : D) (ky : NestedKey) (x : T) : T := match kIx b ks ky with
  | some n => .dct b ks (ts.set n x)
  | none => .dct b (ks ++ [d]) (ts ++ [x])
theorem vals_snoc : ∀ {vs : List V} {us : List Value} {v : V} {u : Value}, Vals vs us → RelV v u → Vals (vs ++ [v]) (us ++ [u])
  | _, _, _, _, .nil, r => .cons r .nil
  | _, _, _, _, .cons h t, r => .cons h (vals_snoc t r)
theorem vals_set : ∀ {vs : List V} {us : List Value} {v : V} {u : Value} (n : Nat), Vals vs us → RelV v u → Vals (vs.set n v) (us.set n u)
  | _, _, _, _, _, .nil, _ => .nil
  | _, _, _, _, 0, .cons _ t, r => .cons r t
  | _, _, _, _, n + 1, .cons h t, r => .cons h (vals_set n t r)
theorem dct_put {W : Wd} (k : WOk W) {b : Bool} {ks : List D} {ts : List T} {l : Addr} {bs : List Addr} (h : TOk K W0 W (.ref l) (.dct b ks ts) (l :: bs)) (nl : l ∉ bs) (nb : bs.Nodup) {xk : V} {d : D} {ky : NestedKey} (hx : Den K W.F xk d) (hk : d.kk b = some ky)
    {v : V} {x : T} {as2 : List Addr} (hv : TOk K W0 W v x as2) (n2 : as2.Nodup) (nl2 : l ∉ as2) (dis : ∀ a ∈ bs, ∀ b ∈ as2, a ≠ b) (hz : ks.length < sizeLine) {P : Hp → Prop}
    (q : ∀ o cs, likeO W l o → TOk K W0 (W.wt l o) (.ref l) (dPut b ks ts d ky x) (l :: cs) → (l :: cs).Nodup → (∀ a ∈ l :: cs, a ∈ l :: bs ∨ a ∈ as2) → P (W.wt l o).H) : DSetX K.k K.w W.H l xk v P := by
  cases h with
  | @dK _ kvs _ _ _ q1 q2 q3 q4 q5 q6 =>
    obtain ⟨key, rfl, rfl, rfl⟩ := kk_false hk hx
    obtain ⟨rfl, q52, q53⟩ := q5
    have hz' : kvs.length < sizeLine := by simpa using hz
    refine .inl ⟨kvs, key, rfl, q1, hz', ?_⟩
    refine (fun z => z) ?_
    have hlen := TOkL.length q6
    cases en : kIx false (kvs.map fun p => kD p.1) (nkK key) with
    | some n =>
      have hlt : n < ts.length := by have := kIx_lt en; simp at this hlen; omega
      have hkn : (kvs.map (·.1))[n]? = some key := by
        have := kIx_at en
        rw [List.map_map, List.getElem?_map] at this
        rw [List.getElem?_map]
        cases hp : kvs[n]? with
        | none => rw [hp] at this; cases this
        | some p =>
          rw [hp] at this
          have z : (kD p.1).kk false = some (nkK key) := Option.some.inj this
          rw [kk_kD] at z
          exact congrArg some (nkK_inj (Option.some.inj z))
      have hput := putK_at (v := v) q52 hkn
      obtain ⟨cs, c1, c2, c3⟩ := tokL_set (wt_moveL (o := .dK (putK kvs key v)) q6 nl) (List.getElem?_eq_getElem hlt) (wt_move (o := .dK (putK kvs key v)) hv nl2) nb n2 dis
      have hks : (putK kvs key v).map (·.1) = kvs.map (·.1) := by
        rw [hput, List.map_set]
        have hn' : n < (kvs.map (·.1)).length := (List.getElem?_eq_some_iff.mp hkn).1
        have := (List.getElem?_eq_some_iff.mp hkn).2
        show (kvs.map (·.1)).set n key = _
        conv => lhs; rw [← this]
        exact List.set_getElem_self hn'
      refine q (.dK (putK kvs key v)) cs (.inl ⟨⟨_, q2⟩, rfl⟩) ?_ ?_ ?_
      · unfold dPut
        rw [en]
        refine .dK upd_same (gUp_some q2) q3 q4 ⟨?_, by rw [hks]; exact q52, by rw [hput, List.length_set]; exact q53⟩ ?_
        · have := congrArg (List.map kD) hks
          rw [List.map_map, List.map_map] at this
          exact this
        · rw [hput, List.map_set]
          rw [hput] at c1
          exact c1
      · rw [List.nodup_cons]
        refine ⟨fun z => ?_, c2⟩
        rcases c3 l z with w | w
        · exact nl w
        · exact nl2 w
      · intro a ha
        rcases List.mem_cons.mp ha with z | z
        · exact .inl (by simp [z])
        · rcases c3 a z with w | w
          · exact .inl (by simp [w])
          · exact .inr w
    | none =>
      have hnone := valV_none en
      have hput := putK_new v hnone
      have hndk := nd_putK v q52 hnone
      refine q (.dK (putK kvs key v)) (bs ++ as2) (.inl ⟨⟨_, q2⟩, rfl⟩) ?_ ?_ ?_
      · unfold dPut
        rw [en]
        refine .dK upd_same (gUp_some q2) q3 q4 ⟨by rw [hput]; simp, hndk, by rw [hput]; simp; omega⟩ ?_
        rw [hput, List.map_append]
        exact tokL_snoc (by rw [← hput]; exact wt_moveL q6 nl) (by rw [← hput]; exact wt_move hv nl2)
      · rw [List.nodup_cons, List.nodup_append]
        exact ⟨by simp [nl, nl2], nb, n2, dis⟩
      · intro a ha
        rcases List.mem_cons.mp ha with z | z
        · exact .inl (by simp [z])
        · rcases List.mem_append.mp z with w | w
          · exact .inl (by simp [w])
          · exact .inr w
  | @dN _ xs vs _ _ _ q1 q2 q3 q4 q5 q6 q7 q8 q9 =>
    obtain ⟨p, rfl, e2⟩ := den_kk hx hk
    have hl1 := q6.length
    have hl2 := Vals.length q8
    have hlen := TOkL.length q9
    have hz' : xs.length < sizeLine := by simp at hl1; omega
    refine .inr ⟨xs, ky, p, q1, fun y hy => ?_, rfl, ⟨nk_same k.fh e2.1, e2.2⟩, hz', fun uv ruv => ?_⟩
    · have := denL_nk_at xs ks q6 q7 y hy
      exact ⟨nk_same k.fh this.1, this.2⟩
    cases en : kIx true ks ky with
    | some n =>
      have hlt : n < ts.length := by have := kIx_lt en; simp at hl1 hl2; omega
      have hkn : (xs.map (·.1))[n]? = some ky := by
        have := kIx_at en
        rw [q7, List.getElem?_map] at this
        rw [List.getElem?_map]
        cases hp : xs[n]? with
        | none => rw [hp] at this; cases this
        | some y => rw [hp] at this; exact congrArg some (Option.some.inj (Option.some.inj this))
      obtain ⟨s1, s2, s3⟩ := storedH_at (b := p) (u := uv) q5.2.2 hkn
      obtain ⟨cs, c1, c2, c3⟩ := tokL_set (wt_moveL (o := .ext (dφ K.w l (storedH xs ky p uv))) q9 nl) (List.getElem?_eq_getElem hlt) (wt_move (o := .ext (dφ K.w l (storedH xs ky p uv))) hv nl2) nb n2 dis
      refine q (.ext (dφ K.w l (storedH xs ky p uv))) cs (.inl ⟨⟨_, q2⟩, rfl⟩) ?_ ?_ ?_
      · unfold dPut
        rw [en]
        refine .dN upd_same (gUp_some q2) q3 q4 ⟨q5.1, by have := congrArg List.length s1; simp at this; omega, by rw [s1]; exact q5.2.2⟩ ?_ ?_ (by rw [s3]; exact vals_set n q8 ruv) c1
        · have e : (storedH xs ky p uv).map (fun x => V.ref x.2.1) = xs.map (fun x => V.ref x.2.1) := by
            have := congrArg (List.map V.ref) s2
            rw [List.map_map, List.map_map] at this
            exact this
          rw [e]; exact q6
        · rw [q7]
          have := congrArg (List.map some) s1
          rw [List.map_map, List.map_map] at this
          exact this.symm
      · rw [List.nodup_cons]
        refine ⟨fun z => ?_, c2⟩
        rcases c3 l z with w | w
        · exact nl w
        · exact nl2 w
      · intro a ha
        rcases List.mem_cons.mp ha with z | z
        · exact .inl (by simp [z])
        · rcases c3 a z with w | w
          · exact .inl (by simp [w])
          · exact .inr w
    | none =>
      have hnone := atKey_none q7 en
      have hput := storedH_new hnone p uv
      refine q (.ext (dφ K.w l (storedH xs ky p uv))) (bs ++ as2) (.inl ⟨⟨_, q2⟩, rfl⟩) ?_ ?_ ?_
      · unfold dPut
        rw [en, hput]
        refine .dN upd_same (gUp_some q2) q3 q4 ⟨q5.1, by simp; omega, ?_⟩ ?_ ?_ ?_ (tokL_snoc (wt_moveL q9 nl) (wt_move hv nl2)) (vs := vs ++ [v])
        · rw [List.map_append]
          refine nd_snoc q5.2.2 fun z => ?_
          obtain ⟨y, hy, hyk⟩ := List.mem_map.mp z
          have : (atKey xs ky).isSome = true := by
            unfold atKey
            rw [Option.isSome_map, List.find?_isSome]
            exact ⟨y, hy, by simp [hyk]⟩
          rw [hnone] at this; cases this
        · rw [List.map_append]
          exact q6.append (.cons hx .nil)
        · rw [List.map_append, List.map_append, q7]
          show _ ++ [d.kk true] = _
          rw [hk]; rfl
        · rw [List.map_append]
          exact vals_snoc q8 ruv
      · rw [List.nodup_cons, List.nodup_append]
        exact ⟨by simp [nl, nl2], nb, n2, dis⟩
      · intro a ha
        rcases List.mem_cons.mp ha with z | z
        · exact .inl (by simp [z])
        · rcases List.mem_append.mp z with w | w
          · exact .inl (by simp [w])
          · exact .inr w
/-- p[k] = e -/
def gPSet (gp : Env → Option (Nat × List Nat)) (gk : GE) (gt : Env → Option T) : GS := fun c => match atP gp c with
  | some (i, π, t, .lst ts) => match gt c with
    | some x => match gk c with
      | some (.int j) => match ixN ts.length j with
        | some n => if n < ts.length then some (.nx (setT c i (T.put π (.lst (ts.set n x)) t))) else none
        | none => none
      | _ => none
    | none => none
  | some (i, π, t, .dct b ks ts) => match gt c with
    | some x => match gk c with
      | some d => match d.kk b with
        | some ky => if ks.length < sizeLine then some (.nx (setT c i (T.put π (dPut b ks ts d ky x) t))) else none
        | none => none
      | none => none
    | none => none
  | _ => none
theorem vs_pSet {te tk tv : TE} {gp : Env → Option (Nat × List Nat)} {gk : GE} {gt : Env → Option T} (hp : VP K W0 te gp) (hk : VT K W0 true tk gk) (hv : VTr K W0 tv gt) :
    VS K W0 E (tAsg tv (gSub te tk (rSetX K.k K.w))) (gPSet gp gk gt) := by
  intro W σ c D k u s q
  unfold gPSet at q
  split at q
  · rename_i i π t ts ha
    cases e : gt c with
    | none => rw [e] at q; exact q.elim
    | some x =>
      simp only [e] at q
      cases ek : gk c with
      | none => rw [ek] at q; exact q.elim
      | some z =>
        cases z with
        | int j =>
          simp only [ek] at q
          cases en : ixN ts.length j with
          | none => rw [en] at q; exact q.elim
          | some n =>
            simp only [en] at q
            by_cases hlt : n < ts.length
            · rw [if_pos hlt] at q
              obtain ⟨a0, e1, e2, e3⟩ := atP_some ha
              refine hv W σ c x _ k u s e fun W1 v as2 k1 g1 d2 n2 f2 => ?_
              refine hp W1 σ c i π _ k1 (u.gr g1) (s.gr g1) e1 fun W2 v0 v1 t0 t2 as a1 a2 a3 k2 g2 h1 h2 h3 h4 h5 h6 => ?_
              obtain ⟨_, h1⟩ := h1; rw [e2] at h1; cases h1
              rw [e3] at h3; cases h3
              cases hf : h6.2.1 with
              | @lst l vs _ bs q1 q2 q3 q4 q5 =>
                clear hf
                refine hk W2 σ c _ _ k2 ((u.gr g1).gr g2) ((s.gr g1).gr g2) ek fun W3 vk k3 g3 hd3 => ?_
                cases hd3
                obtain ⟨nl, nb⟩ := nodup_own h5 h6.1 rfl
                have hH0 : ∃ o, W.H l = some o := by
                  have hh : Holds K W0 W2 (some v0) (some (.tre a0 t)) l := .inr ⟨_, t, v0, as, rfl, rfl, h4, by rw [h6.1]; simp⟩
                  cases hW : W.H l with
                  | some o => exact ⟨o, rfl⟩
                  | none => exact (fresh_noHold s (g1.trans g2) hW i _ _ h2 e2 hh).elim
                obtain ⟨o0, hH0⟩ := hH0
                have nl2 : l ∉ as2 := fun z => by have := f2 l z; rw [hH0] at this; cases this
                have hG : W3.G l = some (.lst vs) := (g3.go _ _ q1).trans q2
                have dis : ∀ a ∈ bs, ∀ b ∈ as2, a ≠ b := fun a ha b hb z => by
                  subst z
                  have hh : Holds K W0 W2 (some v0) (some (.tre a0 t)) a := .inr ⟨_, t, v0, as, rfl, rfl, h4, by rw [h6.1]; simp [ha]⟩
                  exact fresh_noHold s (g1.trans g2) (f2 a hb) i _ _ h2 e2 hh
                obtain ⟨cs, c1, c2, c3⟩ := tokL_set (wt_moveL (o := .lst (vs.set n v)) (q5.gr g3) nl) (List.getElem?_eq_getElem hlt) (wt_move (o := .lst (vs.set n v)) (d2.gr (g2.trans g3)) nl2) nb n2 dis
                have hT : TOk K W0 (W3.wt l (.lst (vs.set n v))) (.ref l) (.lst (ts.set n x)) (l :: cs) := .lst upd_same (gUp_some hG) ((g3.fo _ _ q1).trans q3) q4 c1
                obtain ⟨k4, u4, s4⟩ := put_at k3 (((u.gr g1).gr g2).gr g3) (((s.gr g1).gr g2).gr g3) e2 h2 (h4.gr g3) h5 (h6.gr g3 h4) (by simp) (.inl ⟨⟨_, hG⟩, rfl⟩) hT
                  (by
                    rw [List.nodup_cons]
                    refine ⟨fun z => ?_, c2⟩
                    rcases c3 l z with w | w
                    · exact nl w
                    · exact nl2 w) (fun a ha => by
                    rcases List.mem_cons.mp ha with z | z
                    · exact .inl (by simp [z])
                    · rcases c3 a z with w | w
                      · exact .inl (by simp [w])
                      · exact .inr (fresh_noHold s ((g1.trans g2).trans g3) (f2 a w)))
                exact .inl ⟨l, vs, j, n, rfl, rfl, g3.h _ _ q1, by rw [TOkL.length q5]; exact en, q (W3.wt l (.lst (vs.set n v))) σ k4 u4 (g1.f.trans (g2.f.trans g3.f)) s4⟩
            · rw [if_neg hlt] at q; exact q.elim
        | _ => simp only [ek] at q; exact q.elim
  · rename_i i π t b' ks ts ha
    cases e : gt c with
    | none => rw [e] at q; exact q.elim
    | some x =>
      simp only [e] at q
      cases ek : gk c with
      | none => rw [ek] at q; exact q.elim
      | some d =>
        simp only [ek] at q
        cases eky : d.kk b' with
        | none => rw [eky] at q; exact q.elim
        | some ky =>
          simp only [eky] at q
          by_cases hz : ks.length < sizeLine
          case neg => rw [if_neg hz] at q; exact q.elim
          rw [if_pos hz] at q
          obtain ⟨a0, e1, e2, e3⟩ := atP_some ha
          refine hv W σ c x _ k u s e fun W1 v as2 k1 g1 d2 n2 f2 => ?_
          refine hp W1 σ c i π _ k1 (u.gr g1) (s.gr g1) e1 fun W2 v0 v1 t0 t2 as a1 a2 a3 k2 g2 h1 h2 h3 h4 h5 h6 => ?_
          obtain ⟨_, h1⟩ := h1; rw [e2] at h1; cases h1
          rw [e3] at h3; cases h3
          have old : ∀ a ∈ as, ∃ o, W.H a = some o := fun a ha => by
            have hh : Holds K W0 W2 (some v0) (some (.tre a0 t)) a := .inr ⟨_, t, v0, as, rfl, rfl, h4, ha⟩
            cases hW : W.H a with
            | some o => exact ⟨o, rfl⟩
            | none => exact (fresh_noHold s (g1.trans g2) hW i _ _ h2 e2 hh).elim
          have nin : ∀ a ∈ as, a ∉ as2 := fun a ha z => by
            obtain ⟨o, ho⟩ := old a ha
            rw [f2 a z] at ho; cases ho
          obtain ⟨l, bs, rfl, rfl⟩ : ∃ l bs, v1 = .ref l ∧ a2 = l :: bs := by
            have := h6.2.1
            cases this <;> exact ⟨_, _, rfl, rfl⟩
          refine hk W2 σ c _ _ k2 ((u.gr g1).gr g2) ((s.gr g1).gr g2) ek fun W3 vk k3 g3 hd3 => ?_
          obtain ⟨nl, nb⟩ := nodup_own h5 h6.1 rfl
          have las : l ∈ as := by rw [h6.1]; simp
          refine .inr ⟨l, rfl, DSetX.put <| dct_put k3 (h6.2.1.gr g3) nl nb hd3 eky (d2.gr (g2.trans g3)) n2 (nin l las) (fun a ha b hb z => nin a (by rw [h6.1]; simp [ha]) (z ▸ hb)) hz fun o cs ho hT hcn hcs => ?_⟩
          obtain ⟨k4, u4, s4⟩ := put_at k3 (((u.gr g1).gr g2).gr g3) (((s.gr g1).gr g2).gr g3) e2 h2 (h4.gr g3) h5 (h6.gr g3 h4) (by simp) ho hT hcn fun a ha => (hcs a ha).imp id fun w => fresh_noHold s ((g1.trans g2).trans g3) (f2 a w)
          exact q (W3.wt l o) σ k4 u4 (g1.f.trans (g2.f.trans g3.f)) s4
  · exact q.elim
end
end VL
end

section
/-! VW4: p.f = e, pop, effects within expressions. -/
namespace VL
open PySem PySem.Spec PyProof.Rows L2
section
variable {K : KW} {E : XK} {W0 : Wd}
theorem putF_at {f : Str} {v : V} : ∀ {fs : List (Str × V)} {n : Nat}, (fs.map (·.1)).findIdx? (fun x => decide (x = f)) = some n → (putF f v fs).map (·.1) = fs.map (·.1) ∧ (putF f v fs).map (·.2) = (fs.map (·.2)).set n v
  | [], _, h => by simp at h
  | (g, x) :: r, n, h => by
    rw [List.map_cons, List.findIdx?_cons] at h
    unfold putF
    by_cases e : g = f
    · rw [decide_eq_true e] at h
      simp only [if_true] at h
      cases h
      rw [if_pos e]
      exact ⟨rfl, rfl⟩
    · rw [decide_eq_false e] at h
      simp only [Bool.false_eq_true, if_false, Option.map_eq_some_iff] at h
      obtain ⟨m, hm, rfl⟩ := h
      rw [if_neg e]
      obtain ⟨i1, i2⟩ := putF_at (v := v) hm
      exact ⟨by rw [List.map_cons, List.map_cons, i1], by rw [List.map_cons, List.map_cons, i2]; rfl⟩
def fSet (m : Nat) (C : Addr) (ns : List Str) (ts : List T) (f : Str) (x : T) : T := match ns.findIdx? (fun x => decide (x = f)) with
  | some n => .obj m C ns (ts.set n x)
  | none => .obj m C (ns ++ [f]) (ts ++ [x])
/-- p.f = e -/
def gPFldS (m : Nat) (f : Str) (gp : Env → Option (Nat × List Nat)) (gt : Env → Option T) : GS := fun c => match atP gp c with
  | some (i, π, t, .obj m' C ns ts) => match gt c with
    | some x => if m' = m ∧ ns.length < 1000 then some (.nx (setT c i (T.put π (fSet m' C ns ts f x) t))) else none
    | none => none
  | _ => none
theorem vs_pFldS {m : Nat} {te tv : TE} {f : Str} {gp : Env → Option (Nat × List Nat)} {gt : Env → Option T} (hC : Cls K (K.cls m)) (hn : NoAttr K (K.cls m) f) (hp : VP K W0 te gp) (hv : VTr K W0 tv gt) : VS K W0 E (sFld K te tv f) (gPFldS m f gp gt) := by
  intro W σ c D k u s q
  unfold gPFldS at q
  split at q
  · rename_i i π t m' C ns ts ha
    cases e : gt c with
    | none => rw [e] at q; exact q.elim
    | some x =>
      simp only [e] at q
      by_cases hz : m' = m ∧ ns.length < 1000
      case neg => rw [if_neg hz] at q; exact q.elim
      rw [if_pos hz] at q
      obtain ⟨rfl, hz⟩ := hz
      obtain ⟨a0, e1, e2, e3⟩ := atP_some ha
      refine hv W σ c x _ k u s e fun W1 v as2 k1 g1 d2 n2 f2 => ?_
      refine hp W1 σ c i π _ k1 (u.gr g1) (s.gr g1) e1 fun W2 v0 v1 t0 t2 as a1 a2 a3 k2 g2 h1 h2 h3 h4 h5 h6 => ?_
      obtain ⟨_, h1⟩ := h1; rw [e2] at h1; cases h1
      rw [e3] at h3; cases h3
      have nin : ∀ a ∈ as, a ∉ as2 := fun a ha z => by
        have hh : Holds K W0 W2 (some v0) (some (.tre a0 t)) a := .inr ⟨_, t, v0, as, rfl, rfl, h4, ha⟩
        exact fresh_noHold s (g1.trans g2) (f2 a z) i _ _ h2 e2 hh
      cases hf : h6.2.1 with
      | @obj _ l dx _ fs _ _ bs q1 q2 q3 q4 q5 q6 =>
        clear hf
        obtain ⟨rfl, rfl⟩ := q5
        obtain ⟨nl, nb⟩ := nodup_own h5 h6.1 rfl
        have las : l ∈ as := by rw [h6.1]; simp
        have nl2 := nin l las
        have dis : ∀ a ∈ bs, ∀ b ∈ as2, a ≠ b := fun a ha b hb z => nin a (by rw [h6.1]; simp [ha]) (z ▸ hb)
        have hlen := TOkL.length q6
        refine ⟨l, _, dx, fs, rfl, q1, hC, hn, by simpa using hz, ?_⟩
        have fin : ∀ (t1' : T) cs, TOk K W0 (W2.wt l (.ins (K.cls m') dx (putF f v fs))) (.ref l) t1' (l :: cs) → (l :: cs).Nodup → (∀ a ∈ l :: cs, a ∈ l :: bs ∨ a ∈ as2) → t1' = fSet m' (K.cls m') (fs.map (·.1)) ts f x → D.nx σ (upd W2.H l (.ins (K.cls m') dx (putF f v fs))) := by
          intro t1' cs hT hcn hcs ht
          subst ht
          obtain ⟨k4, u4, s4⟩ := put_at k2 ((u.gr g1).gr g2) ((s.gr g1).gr g2) e2 h2 h4 h5 h6 (by simp) (.inr ⟨q2, _, _, _, rfl⟩) hT hcn fun a ha => (hcs a ha).imp id fun w => fresh_noHold s (g1.trans g2) (f2 a w)
          exact q (W2.wt l _) σ k4 u4 (g1.f.trans g2.f) s4
        cases en : (fs.map (·.1)).findIdx? (fun x => decide (x = f)) with
        | some n =>
          obtain ⟨p1, p2⟩ := putF_at (v := v) en
          have hlt : n < ts.length := by
            have := (List.findIdx?_eq_some_iff_getElem.mp en).1
            simp at this hlen; omega
          obtain ⟨cs, c1, c2, c3⟩ := tokL_set (wt_moveL (o := .ins (K.cls m') dx (putF f v fs)) q6 nl) (List.getElem?_eq_getElem hlt) (wt_move (o := .ins (K.cls m') dx (putF f v fs)) (d2.gr g2) nl2) nb n2 dis
          refine fin (.obj m' (K.cls m') (fs.map (·.1)) (ts.set n x)) cs (.obj upd_same (gUp_none q2) q3 q4 ⟨p1, rfl⟩ (by rw [p2]; exact c1)) ?_ ?_ (by unfold fSet; rw [en])
          · rw [List.nodup_cons]
            refine ⟨fun z => ?_, c2⟩
            rcases c3 l z with w | w
            · exact nl w
            · exact nl2 w
          · intro a ha
            rcases List.mem_cons.mp ha with z | z
            · exact .inl (by simp [z])
            · rcases c3 a z with w | w
              · exact .inl (by simp [w])
              · exact .inr w
        | none =>
          have hno : f ∉ fs.map (·.1) := by
            intro z
            rw [List.findIdx?_eq_none_iff] at en
            simpa using en f z
          have hput := putF_new (v := v) hno
          refine fin (.obj m' (K.cls m') (fs.map (·.1) ++ [f]) (ts ++ [x])) (bs ++ as2) (.obj upd_same (gUp_none q2) q3 q4 ⟨by rw [hput]; simp, rfl⟩ ?_) ?_ ?_ (by unfold fSet; rw [en])
          · rw [hput, List.map_append]
            exact tokL_snoc (by rw [← hput]; exact wt_moveL q6 nl) (by rw [← hput]; exact wt_move (d2.gr g2) nl2)
          · rw [List.nodup_cons, List.nodup_append]
            exact ⟨by simp [nl, nl2], nb, n2, dis⟩
          · intro a ha
            rcases List.mem_cons.mp ha with z | z
            · exact .inl (by simp [z])
            · rcases List.mem_append.mp z with w | w
              · exact .inl (by simp [w])
              · exact .inr w
  · exact q.elim
/-! ### expressions that change what stands -/
abbrev GEE := Env → Option (D × Env)
def VE (K : KW) (W0 : Wd) (te : TE) (g : GEE) : Prop :=
  ∀ (W : Wd) (σ : L2.St) (c : Env) (d : D) (c' : Env) (Q : VK), WOk W → Up W0 W → SD K W0 W σ c → g c = some (d, c') → (∀ W' v, WOk W' → Up W0 W' → Same W.F W'.F → SD K W0 W' σ c' → Den K W'.F v d → Q v W'.H) → te σ W.H Q
/-- p.pop() -/
def gEPop (gp : Env → Option (Nat × List Nat)) : GEE := fun c => match atP gp c with
  | some (i, π, t, .lst ts) => match ts.getLast? with
    | some (.leaf d) => some (d, setT c i (T.put π (.lst ts.dropLast) t))
    | _ => none
  | _ => none
theorem tokL_pop {W : Wd} {ts : List T} {vs : List V} {as : List Addr} {d : D} (h : TOkL K W0 W vs ts as) (e : ts.getLast? = some (.leaf d)) : ∃ v, vs[vs.length - 1]? = some v ∧ Den K W.F v d ∧ TOkL K W0 W vs.dropLast ts.dropLast as := by
  induction ts generalizing vs as with
  | nil => cases e
  | cons t ts ih =>
    cases h with
    | @cons v _ as0 vs _ as1 h1 h2 =>
      cases ts with
      | nil =>
        cases h2
        cases e
        cases h1 with
        | leaf hd => exact ⟨v, rfl, hd, .nil⟩
      | cons t' ts =>
        have e' : (t' :: ts).getLast? = some (.leaf d) := by simpa using e
        obtain ⟨w, w1, w2, w3⟩ := ih h2 e'
        cases vs with
        | nil => cases h2
        | cons v' vs =>
          refine ⟨w, ?_, w2, ?_⟩
          · simpa using w1
          · show TOkL K W0 W (v :: (v' :: vs).dropLast) (t :: (t' :: ts).dropLast) _
            exact .cons h1 w3
theorem ve_pop {te : TE} {gp : Env → Option (Nat × List Nat)} (hp : VP K W0 te gp) : VE K W0 (tBM0 K.k "list" rPop te) (gEPop gp) := by
  intro W σ c d c' Q k u s e q
  unfold gEPop at e
  split at e
  · rename_i i π t ts ha
    split at e
    · rename_i d' hl
      cases e
      obtain ⟨a0, e1, e2, e3⟩ := atP_some ha
      refine hp W σ c i π _ k u s e1 fun W2 v0 v1 t0 t2 as a1 a2 a3 k2 g2 h1 h2 h3 h4 h5 h6 => ?_
      obtain ⟨_, h1⟩ := h1; rw [e2] at h1; cases h1
      rw [e3] at h3; cases h3
      cases hf : h6.2.1 with
      | @lst l vs _ bs q1 q2 q3 q4 q5 =>
        clear hf
        obtain ⟨nl, nb⟩ := nodup_own h5 h6.1 rfl
        obtain ⟨w, w1, w2, w3⟩ := tokL_pop q5 hl
        refine ⟨.inl ⟨rfl, _, SqL.of q1⟩, l, vs, w, rfl, rfl, q1, w1, ?_⟩
        have hT : TOk K W0 (W2.wt l (.lst vs.dropLast)) (.ref l) (.lst ts.dropLast) (l :: bs) := .lst upd_same (gUp_some q2) q3 q4 (wt_moveL w3 nl)
        obtain ⟨k4, u4, s4⟩ := put_at k2 (u.gr g2) (s.gr g2) e2 h2 h4 h5 h6 (by simp) (.inl ⟨⟨_, q2⟩, rfl⟩) hT (by rw [List.nodup_cons]; exact ⟨nl, nb⟩) fun a ha => .inl ha
        exact q (W2.wt l _) w k4 u4 g2.f s4 w2
    · cases e
  · cases e
/-- x.pop(), x a list of one's own -/
def gEPopO (i : Nat) : GEE := fun c => match c[i]? with
  | some (some (.own ds)) => match ds.getLast? with
    | some d => some (d, c.set i (some (.own ds.dropLast)))
    | none => none
  | _ => none
theorem ve_popO (i : Nat) : VE K W0 (tBM0 K.k "list" rPop (tVar i)) (gEPopO i) := by
  intro W σ c d c' Q k u s e q
  unfold gEPopO at e
  split at e
  · rename_i ds hc
    split at e
    · rename_i d' hl
      cases e
      obtain ⟨x, hx, l, vs, rfl, h1, h2, h3, h4, h5⟩ := s.at hc
      have hn : ds ≠ [] := by intro z; rw [z] at hl; cases hl
      have hlast : ds[ds.length - 1]? = some d := by rw [← hl, List.getLast?_eq_getElem?]
      obtain ⟨v, hv, hd⟩ := h5.get hlast
      refine ⟨_, hx, .inl ⟨rfl, _, SqL.of h1⟩, l, vs, v, rfl, rfl, h1, by rw [h5.length]; exact hv, ?_⟩
      obtain ⟨k2, u2, s2⟩ := wr_sd (vs := vs) k u s hx hc (h5.dropLast)
      exact q (W.wr l (.lst vs.dropLast)) v k2 u2 (Same.refl _) s2 hd
    · cases e
  · cases e
/-- e[k] behind an effect -/
def gEIx (g : GEE) (gk : GE) : GEE := fun c => match g c with
  | some (d, c') => match gk c' with
    | some y => (dIx d y).map fun z => (z, c')
    | none => none
  | none => none
theorem ve_ix {te tk : TE} {b : Bool} {g : GEE} {gk : GE} (h : VE K W0 te g) (hk : VT K W0 b tk gk) : VE K W0 (tOp (rIxU K.k K.w) te tk) (gEIx g gk) := by
  intro W σ c d c' Q k u s e q
  unfold gEIx at e
  split at e
  · rename_i d1 c1 hg
    split at e
    · rename_i y hy
      simp only [Option.map_eq_some_iff] at e
      obtain ⟨z, ez, e⟩ := e
      cases e
      refine h W σ c d1 c' _ k u s hg fun W1 v k1 u1 f1 s1 hd => ?_
      refine hk W1 σ c' y _ k1 u1 s1 hy fun W2 v2 k2 g2 hd2 => ?_
      exact dIx_run (H := W2.F) (H1 := W2.G) k2.fg k2.gh (hd.up g2.f) (hd2.up (k2.atG b)) ez fun v hv => q W2 v k2 (u1.gr g2) (f1.trans g2.f) (s1.gr g2) hv
    · cases e
  · cases e
/-- statements -/
def gAsgE (g : GEE) (f : D → Env → Option Env) : GS := fun c => match g c with
  | some (d, c') => (f d c').map Out.nx
  | none => none
theorem vs_asgE {te : TE} {g : GEE} {tg : TG} {js : List Nat} {f : D → Env → Option Env} (h : VE K W0 te g) (hg : VG K W0 tg js f) : VS K W0 E (tAsg te tg) (gAsgE g f) := by
  intro W σ c D k u s q
  unfold gAsgE at q
  cases e : g c with
  | none => rw [e] at q; exact q.elim
  | some p =>
    obtain ⟨d, c'⟩ := p
    simp only [e] at q
    cases e2 : f d c' with
    | none => rw [e2] at q; exact q.elim
    | some c2 =>
      rw [e2] at q
      refine h W σ c d c' _ k u s e fun W' v k' u' f' s' hd => ?_
      exact hg W' σ c' c2 v d _ k' s' hd e2 fun σ' s2 _ _ => q W' σ' k' u' f' s2
def gDropE (g : GEE) : GS := fun c => (g c).map fun p => .nx p.2
theorem vs_dropE {te : TE} {g : GEE} (h : VE K W0 te g) : VS K W0 E (tDrop te) (gDropE g) := by
  intro W σ c D k u s q
  unfold gDropE at q
  cases e : g c with
  | none => rw [e] at q; exact q.elim
  | some p =>
    obtain ⟨d, c'⟩ := p
    rw [e] at q
    exact h W σ c d c' _ k u s e fun W' v k' u' f' s' _ => q W' σ k' u' f' s'
/-! tests with an effect -/
abbrev GBE := Env → Option (Bool × Env)
def VBE (K : KW) (W0 : Wd) (tt : TT) (g : GBE) : Prop :=
  ∀ (W : Wd) (σ : L2.St) (c : Env) (b : Bool) (c' : Env) (Q : Bool → Hp → Prop), WOk W → Up W0 W → SD K W0 W σ c → g c = some (b, c') → (∀ W', WOk W' → Up W0 W' → Same W.F W'.F → SD K W0 W' σ c' → Q b W'.H) → tt σ W.H Q
def gETru (g : GEE) : GBE := fun c => match g c with
  | some (d, c') => d.tru.map fun b => (b, c')
  | none => none
theorem vbe_tru {te : TE} {g : GEE} (h : VE K W0 te g) : VBE K W0 (fun σ H Q => te σ H fun x H' => ∃ k, TruV K x H' k ∧ Q k H') (gETru g) := by
  intro W σ c b c' Q k u s e q
  unfold gETru at e
  split at e
  · rename_i d c1 hg
    simp only [Option.map_eq_some_iff] at e
    obtain ⟨b', hb, e⟩ := e
    cases e
    exact h W σ c d c' _ k u s hg fun W' v k' u' f' s' hd => ⟨b, tru_run (hd.up k'.fh) hb, q W' k' u' f' s'⟩
  · cases e
def gENot (g : GBE) : GBE := fun c => (g c).map fun p => (!p.1, p.2)
theorem vbe_not {tt : TT} {g : GBE} (h : VBE K W0 tt g) : VBE K W0 (tNot tt) (gENot g) := by
  intro W σ c b c' Q k u s e q
  simp only [gENot, Option.map_eq_some_iff] at e
  obtain ⟨⟨b', c1⟩, e1, e2⟩ := e
  cases e2
  exact h W σ c b' c1 _ k u s e1 fun W' k' u' f' s' => q W' k' u' f' s'
def gIfB (g : GBE) (g1 g2 : GS) : GS := fun c => match g c with
  | some (true, c') => g1 c'
  | some (false, c') => g2 c'
  | none => none
theorem vs_ifBE {tt : TT} {g : GBE} {t1 t2 : TS} {g1 g2 : GS} (h : VBE K W0 tt g) (h1 : VS K W0 E t1 g1) (h2 : VS K W0 E t2 g2) : VS K W0 E (tIfS tt t1 t2) (gIfB g g1 g2) := by
  intro W σ c D k u s q
  unfold gIfB at q
  cases e : g c with
  | none => rw [e] at q; exact q.elim
  | some p =>
    obtain ⟨b, c'⟩ := p
    refine h W σ c b c' _ k u s e fun W' k' u' f' s' => ?_
    cases b with
    | true =>
      simp only [e] at q
      rw [if_pos rfl]; exact h1 W' σ c' D k' u' s' (q.mono f')
    | false =>
      simp only [e] at q
      rw [if_neg Bool.false_ne_true]; exact h2 W' σ c' D k' u' s' (q.mono f')
end
end VL
end

section
/-! VW5: structures of one's own are settled; dicts are walked. -/
namespace VL
open PySem PySem.Spec PyProof.Rows L2
section
variable {K : KW} {E : XK} {W0 : Wd}
/-! ### a structure is settled -/
section
variable {W : Wd} {F' : Hp}
mutual
theorem TOk.denF (ff : Same W.F F') : ∀ (t : T) (v : V) (as : List Addr), t.plain = true → (∀ l ∈ as, F' l = W.G l) → TOk K W0 W v t as → Den K F' v t.view
  | .leaf d, _, _, _, _, h => by cases h with | leaf h => exact h.up ff
  | .lst ts, _, _, p, e, h => by
    cases h with
    | lst h1 h2 h3 h4 h5 => exact .lst ((e _ (List.mem_cons_self ..)).trans h2) (TOkL.denF ff ts _ _ p (fun l hl => e l (List.mem_cons_of_mem _ hl)) h5)
  | .tup ts, _, _, p, e, h => by
    cases h with
    | tup h1 h2 => exact .tup (.inl (.inl (ff _ _ h1))) (TOkL.denF ff ts _ _ p e h2)
  | .dct false ks ts, _, _, p, e, h => by
    cases h with
    | dK h1 h2 h3 h4 h5 h6 => exact .dK (.inl ((e _ (List.mem_cons_self ..)).trans h2)) h5.1 (TOkL.denF ff ts _ _ p (fun l hl => e l (List.mem_cons_of_mem _ hl)) h6)
  | .dct true ks ts, _, _, p, e, h => by
    cases h with
    | dN h1 h2 h3 h4 h5 h6 h7 h8 h9 => exact .dN (.inl ((e _ (List.mem_cons_self ..)).trans h2)) (h6.up ff) h7 h8 (TOkL.denF ff ts _ _ p (fun l hl => e l (List.mem_cons_of_mem _ hl)) h9)
  | .obj _ _ _ _, _, _, p, _, _ => by cases p
theorem TOkL.denF (ff : Same W.F F') : ∀ (ts : List T) (vs : List V) (as : List Addr), T.plainL ts = true → (∀ l ∈ as, F' l = W.G l) → TOkL K W0 W vs ts as → DenL K F' vs (T.viewL ts)
  | [], _, _, _, _, h => by cases h; exact .nil
  | t :: ts, _, _, p, e, h => by
    have p' : (T.plain t && T.plainL ts) = true := p
    rw [Bool.and_eq_true] at p'
    cases h with
    | cons h1 h2 => exact .cons (TOk.denF ff t _ _ p'.1 (fun l hl => e l (List.mem_append_left _ hl)) h1) (TOkL.denF ff ts _ _ p'.2 (fun l hl => e l (List.mem_append_right _ hl)) h2)
end
end
def frzT (i : Nat) (c : Env) : Env := match c[i]? with
  | some (some (.own ds)) => c.set i (some (.fz (.lst ds)))
  | some (some (.tre none t)) => if t.plain = true then c.set i (some (.fz t.view)) else c
  | _ => c
theorem sd_frzT {W : Wd} {σ : L2.St} {c : Env} {i : Nat} {t : T} (k : WOk W) (u : Up W0 W) (s : SD K W0 W σ c) (hc : c[i]? = some (some (.tre none t))) (hp : t.plain = true) :
    ∃ W', W'.H = W.H ∧ WOk W' ∧ Up W0 W' ∧ Same W.F W'.F ∧ SD K W0 W' σ (c.set i (some (.fz t.view))) := by
  classical
  obtain ⟨x, hx, v, as, rfl, ht, hn, _⟩ := s.at hc
  let F' : Hp := fun a => if a ∈ as then W.G a else W.F a
  have fin : ∀ a, a ∈ as → F' a = W.G a := fun a h => if_pos h
  have fout : ∀ a, a ∉ as → F' a = W.F a := fun a h => if_neg h
  have ff : Same W.F F' := fun a o e => by
    by_cases h : a ∈ as
    · rw [fin a h]; exact k.fg _ _ e
    · rw [fout a h]; exact e
  have hold : ∀ l ∈ as, Holds K W0 W (some v) (some (.tre none t)) l := fun l hl => .inr ⟨_, t, v, as, rfl, rfl, ht, hl⟩
  have mv : ∀ (j : Nat) b0 t' v' as', j ≠ i → σ[j]? = some (some v') → c[j]? = some (some (.tre b0 t')) → TOk K W0 W v' t' as' → TOk K W0 ⟨W.H, W.G, F'⟩ v' t' as' := by
    intro j b0 t' v' as' hj h1 h2 h3
    refine TOk.move (W := W) (W0 := W0) ff (fun _ e => e) t' v' as' (fun l hl => ⟨rfl, rfl, fout l fun z => hj ?_⟩) h3
    exact s.one j i _ _ _ _ l h1 h2 hx hc (.inr ⟨_, t', v', as', rfl, rfl, h3, hl⟩) (hold l z)
  have nf : ∀ (j : Nat) y w l, j ≠ i → σ[j]? = some y → c[j]? = some w → y = some (.ref l) → cobj w = true → F' l = W.F l := fun j y w l hj h1 h2 h3 h4 =>
    fout l fun z => hj (s.one j i _ _ _ _ l h1 h2 hx hc (.inl ⟨h3, h4⟩) (hold l z))
  refine ⟨⟨W.H, W.G, F'⟩, rfl, ⟨fun a o e => ?_, k.gh, fun a xs e ht => ff a _ (k.gt a xs e ht)⟩, ⟨u.h, u.f.trans ff, fun a o e => ?_⟩, ff, ⟨by simp [s.len], fun j y w h1 h2 => ?_, ?_⟩⟩
  · have e' : F' a = some o := e
    by_cases h : a ∈ as
    · rw [fin a h] at e'; exact e'
    · rw [fout a h] at e'; exact k.fg _ _ e'
  · show F' a = W0.F a
    by_cases h : a ∈ as
    · have := (TOk.there t v as ht a h).2.2
      rw [this] at e; cases e
    · rw [fout a h]; exact u.fo a o e
  · by_cases hj : i = j
    · subst hj
      rw [List.getElem?_set_self (List.getElem?_eq_some_iff.mp hc).1] at h2
      cases h2
      rw [hx] at h1; cases h1
      exact ⟨v, rfl, TOk.denF ff t v as hp fin ht⟩
    · rw [List.getElem?_set_ne hj] at h2
      have okc := s.ok j y w h1 h2
      cases w with
      | none => trivial
      | some cl =>
        cases cl with
        | fz d => obtain ⟨v', a1, a2⟩ := okc; exact ⟨v', a1, a2.up ff⟩
        | own ds =>
          obtain ⟨l, vs, e1, e2, e3, e4, e5, e6⟩ := okc
          exact ⟨l, vs, e1, e2, e3, (nf j y _ l (Ne.symm hj) h1 h2 e1 rfl).trans e4, e5, e6.up ff⟩
        | exc C ns ds => obtain ⟨fs, e1, e2, e3, e4⟩ := okc; exact ⟨fs, e1, e2, e3, e4.up ff⟩
        | slf C ns ds =>
          obtain ⟨fs, e1, e2, e3, e4, e5, e6, e7⟩ := okc
          exact ⟨fs, e1, e2, e3, (nf j y _ W0.sa (Ne.symm hj) h1 h2 e1 rfl).trans e4, e5, e6, e7.up ff⟩
        | tre b0 t' =>
          obtain ⟨v', as', e1, e2, e3⟩ := okc
          subst e1
          exact ⟨v', as', rfl, mv j _ t' v' as' (Ne.symm hj) h1 h2 e2, e3⟩
  · have back : ∀ (j : Nat) x y l, σ[j]? = some x → (c.set i (some (.fz t.view)))[j]? = some y → Holds K W0 ⟨W.H, W.G, F'⟩ x y l → c[j]? = some y ∧ Holds K W0 W x y l := by
      intro j x y l h1 h2 h
      by_cases hj : i = j
      · subst hj
        rw [List.getElem?_set_self (List.getElem?_eq_some_iff.mp hc).1] at h2
        cases h2
        exact (noHold_fz h).elim
      · rw [List.getElem?_set_ne hj] at h2
        refine ⟨h2, ?_⟩
        rcases h with h | ⟨b0, t', v', as', rfl, rfl, h3, h4⟩
        · exact .inl h
        · obtain ⟨v2, bs, e, h5, h6⟩ := s.ok j _ _ h1 h2
          cases e
          rw [TOk.det t' v' as' bs h3 (mv j b0 t' v' bs (Ne.symm hj) h1 h2 h5)] at h4
          exact .inr ⟨_, t', v', bs, rfl, rfl, h5, h4⟩
    intro j m x y z w l h1 h2 h3 h4 h5 h6
    obtain ⟨a1, b1⟩ := back j x y l h1 h2 h5
    obtain ⟨a2, b2⟩ := back m z w l h3 h4 h6
    exact s.one j m x y z w l h1 a1 h3 a2 b1 b2
def gFrzT (i : Nat) (g : GS) : GS := fun c => g (frzT i c)
theorem vs_frzT (i : Nat) {t : TS} {g : GS} (h : VS K W0 E t g) : VS K W0 E t (gFrzT i g) := by
  intro W σ c D k u s q
  unfold gFrzT frzT at q
  split at q
  · rename_i ds hc
    have := vs_frz i h W σ c D k u s
    unfold gFrz frz at this
    rw [hc] at this
    exact this q
  · rename_i t' hc
    split at q
    · rename_i hp
      obtain ⟨W', e, k', u', f', s'⟩ := sd_frzT k u s hc hp
      rw [← e]
      exact h W' σ _ D k' u' s' (q.mono f')
    · exact h W σ c D k u s q
  · exact h W σ c D k u s q
/-! ### a dict is locked while it is walked -/
def Tg (u y : HO) : Prop := y = u ∨ ∃ o, y = .frz o u
def isD : HO → Bool
  | .dK _ => true
  | .ext _ => true
  | _ => false
structure Tog (W0 W W0' W' : Wd) (d : Addr) (u y x : HO) : Prop where
  td : isD u = true
  ty : Tg u y
  tx : Tg u x
  F : W.F d = some y
  F' : W'.F d = some x
  G' : W'.G d = some x
  H' : W'.H d = some x
  nH : ∀ a, a ≠ d → W'.H a = W.H a
  nG : ∀ a, a ≠ d → W'.G a = W.G a
  nF : ∀ a, a ≠ d → W'.F a = W.F a
  g0 : W0'.G = W0.G
  h0 : ∀ a, W0.H a = none ↔ W0'.H a = none
theorem tg_rd {F F' : Hp} {d a : Addr} {u y x o : HO} (hd : isD u = true) (hy : Tg u y) (hx : Tg u x) (e : F d = some y) (e' : F' d = some x) (n : ∀ b, b ≠ d → F' b = F b) (ho : ∀ q z, o ≠ .frz q z) (r : Rd F a o) : Rd F' a o := by
  by_cases h : a = d
  · subst h
    have key : o = u := by
      rcases r with r | ⟨q, r⟩
      · rw [e] at r; cases r
        rcases hy with z | ⟨p, z⟩
        · exact z
        · exact (ho _ _ z).elim
      · rw [e] at r; cases r
        rcases hy with z | ⟨p, z⟩
        · rw [← z] at hd; cases hd
        · cases z; rfl
    subst key
    rcases hx with z | ⟨p, z⟩
    · exact .inl (by rw [e', z])
    · exact .inr ⟨p, by rw [e', z]⟩
  · rcases r with r | ⟨q, r⟩
    · exact .inl (by rw [n a h]; exact r)
    · exact .inr ⟨q, by rw [n a h]; exact r⟩
theorem tg_ne {F F' : Hp} {d a : Addr} {u y o : HO} (hd : isD u = true) (hy : Tg u y) (e : F d = some y) (n : ∀ b, b ≠ d → F' b = F b) (ho : isD o = false) (hf : ∀ q z, o = .frz q z → isD z = false) (r : F a = some o) : F' a = some o := by
  by_cases h : a = d
  · subst h
    rw [e] at r; cases r
    rcases hy with z | ⟨p, z⟩
    · rw [z, hd] at ho; cases ho
    · have := hf _ _ z; rw [hd] at this; cases this
  · rw [n a h]; exact r
section
variable {F F' : Hp} {d : Addr} {u y x : HO}
mutual
theorem Den.tog (hd : isD u = true) (hy : Tg u y) (hx : Tg u x) (e : F d = some y) (e' : F' d = some x) (n : ∀ b, b ≠ d → F' b = F b) : ∀ (dd : D) (v : V), Den K F v dd → Den K F' v dd
  | .non, _, h => by cases h; exact .non
  | .bl b, _, h => by cases h; exact .bl b
  | .int i, _, h => by cases h; exact .int i
  | .str z, _, h => by cases h; exact .str z
  | .tup ds, _, h => by
    cases h with
    | tup h1 h2 =>
      refine .tup ?_ (DenL.tog hd hy hx e e' n ds _ h2)
      rcases h1 with h1 | h1
      · exact .inl (tg_rd hd hy hx e e' n (fun _ _ z => nomatch z) h1)
      · exact .inr h1
  | .lst ds, _, h => by
    cases h with
    | lst h1 h2 => exact .lst (tg_ne hd hy e n rfl (fun _ _ z => nomatch z) h1) (DenL.tog hd hy hx e e' n ds _ h2)
  | .scr ds, _, h => by
    cases h with
    | scr h1 h2 =>
      refine .scr ?_ (DenL.tog hd hy hx e e' n ds _ h2)
      rcases h1 with h1 | h1
      · exact .inl (tg_rd hd hy hx e e' n (fun _ _ z => nomatch z) h1)
      · exact .inr h1
  | .ins C ns ds, _, h => by
    cases h with
    | ins h1 h2 h3 => exact .ins (tg_ne hd hy e n rfl (fun _ _ z => nomatch z) h1) h2 (DenL.tog hd hy hx e e' n ds _ h3)
  | .dct false ks ds, _, h => by
    cases h with
    | dK h1 h2 h3 => exact .dK (tg_rd hd hy hx e e' n (fun _ _ z => nomatch z) h1) h2 (DenL.tog hd hy hx e e' n ds _ h3)
  | .dct true ks ds, _, h => by
    cases h with
    | dN h1 h2 h3 h4 h5 => exact .dN (tg_rd hd hy hx e e' n (fun _ _ z => nomatch z) h1) (DenL.tog hd hy hx e e' n ks _ h2) h3 h4 (DenL.tog hd hy hx e e' n ds _ h5)
theorem DenL.tog (hd : isD u = true) (hy : Tg u y) (hx : Tg u x) (e : F d = some y) (e' : F' d = some x) (n : ∀ b, b ≠ d → F' b = F b) : ∀ (ds : List D) (vs : List V), DenL K F vs ds → DenL K F' vs ds
  | [], _, h => by cases h; exact .nil
  | dd :: ds, _, h => by
    cases h with
    | cons h1 h2 => exact .cons (Den.tog hd hy hx e e' n dd _ h1) (DenL.tog hd hy hx e e' n ds _ h2)
end
end
section
variable {W W0' W' : Wd} {d : Addr} {u y x : HO}
theorem Tog.den (t : Tog W0 W W0' W' d u y x) {v : V} {dd : D} (h : Den K W.F v dd) : Den K W'.F v dd := Den.tog t.td t.ty t.tx t.F t.F' t.nF dd v h
theorem Tog.denL (t : Tog W0 W W0' W' d u y x) {v : List V} {dd : List D} (h : DenL K W.F v dd) : DenL K W'.F v dd := DenL.tog t.td t.ty t.tx t.F t.F' t.nF dd v h
theorem Tog.ne (t : Tog W0 W W0' W' d u y x) {l : Addr} (h : W.F l = none) : l ≠ d := fun z => by rw [z, t.F] at h; cases h
mutual
theorem TOk.tog (g : Tog W0 W W0' W' d u y x) : ∀ (t : T) (v : V) (as : List Addr), TOk K W0 W v t as → TOk K W0' W' v t as
  | .leaf dd, _, _, h => by cases h with | leaf h => exact .leaf (g.den h)
  | .lst ts, _, _, h => by
    cases h with
    | lst h1 h2 h3 h4 h5 => exact .lst ((g.nH _ (g.ne h3)).trans h1) ((g.nG _ (g.ne h3)).trans h2) ((g.nF _ (g.ne h3)).trans h3) ((g.h0 _).mp h4) (TOkL.tog g ts _ _ h5)
  | .tup ts, _, _, h => by
    cases h with
    | tup h1 h2 => exact .tup (tg_ne g.td g.ty g.F g.nF rfl (fun _ _ z => nomatch z) h1) (TOkL.tog g ts _ _ h2)
  | .dct false ks ts, _, _, h => by
    cases h with
    | dK h1 h2 h3 h4 h5 h6 => exact .dK ((g.nH _ (g.ne h3)).trans h1) ((g.nG _ (g.ne h3)).trans h2) ((g.nF _ (g.ne h3)).trans h3) ((g.h0 _).mp h4) h5 (TOkL.tog g ts _ _ h6)
  | .dct true ks ts, _, _, h => by
    cases h with
    | dN h1 h2 h3 h4 h5 h6 h7 h8 h9 => exact .dN ((g.nH _ (g.ne h3)).trans h1) ((g.nG _ (g.ne h3)).trans h2) ((g.nF _ (g.ne h3)).trans h3) ((g.h0 _).mp h4) h5 (g.denL h6) h7 h8 (TOkL.tog g ts _ _ h9)
  | .obj n C ns ts, _, _, h => by
    cases h with
    | obj h1 h2 h3 h4 h5 h6 => exact .obj ((g.nH _ (g.ne h3)).trans h1) ((g.nG _ (g.ne h3)).trans h2) ((g.nF _ (g.ne h3)).trans h3) ((g.h0 _).mp h4) h5 (TOkL.tog g ts _ _ h6)
theorem TOkL.tog (g : Tog W0 W W0' W' d u y x) : ∀ (ts : List T) (vs : List V) (as : List Addr), TOkL K W0 W vs ts as → TOkL K W0' W' vs ts as
  | [], _, _, h => by cases h; exact .nil
  | t :: ts, _, _, h => by
    cases h with
    | cons h1 h2 => exact .cons (TOk.tog g t _ _ h1) (TOkL.tog g ts _ _ h2)
end
theorem SD.tog {σ : L2.St} {c : Env} (k : WOk W) (g : Tog W0 W W0' W' d u y x) (s : SD K W0 W σ c) : SD K W0' W' σ c := by
  have hH : W.H d = some y := k.fh _ _ g.F
  have sa : W0'.sa = W0.sa := by unfold Wd.sa; rw [g.g0]
  have sd : W0'.sd = W0.sd := by unfold Wd.sd; rw [g.g0]
  have xa : W0'.xa = W0.xa := by unfold Wd.xa; rw [g.g0]
  have xd : W0'.xd = W0.xd := by unfold Wd.xd; rw [g.g0]
  have an : ∀ n, W0'.anc n = W0.anc n := fun n => by unfold Wd.anc; rw [g.g0]
  refine ⟨s.len, fun i z w h1 h2 => ?_, s.one_move fun i b0 t v as h1 h2 h3 => TOk.tog g t v as h3⟩
  have okc := s.ok i z w h1 h2
  cases w with
  | none => trivial
  | some cl =>
    cases cl with
    | fz dd => obtain ⟨v, a1, a2⟩ := okc; exact ⟨v, a1, g.den a2⟩
    | own ds =>
      obtain ⟨l, vs, e1, e2, e3, e4, e5, e6⟩ := okc
      exact ⟨l, vs, e1, (g.nH _ (g.ne e4)).trans e2, (g.nG _ (g.ne e4)).trans e3, (g.nF _ (g.ne e4)).trans e4, (g.h0 _).mp e5, g.denL e6⟩
    | exc C ns ds =>
      obtain ⟨fs, e1, e2, e3, e4⟩ := okc
      refine ⟨fs, by rw [xa]; exact e1, ?_, e3, g.denL e4⟩
      rw [xd]
      refine (g.nH _ fun z => ?_).trans e2
      rw [z, hH] at e2; cases e2
      rcases g.ty with q | ⟨_, q⟩
      · have := g.td; rw [← q] at this; cases this
      · cases q
    | slf C ns ds =>
      obtain ⟨fs, e1, e2, e3, e4, e5, e6, e7⟩ := okc
      exact ⟨fs, by rw [sa]; exact e1, by rw [sa, sd]; exact (g.nH _ (g.ne e4)).trans e2, by rw [sa]; exact (g.nG _ (g.ne e4)).trans e3, by rw [sa]; exact (g.nF _ (g.ne e4)).trans e4, by rw [sa]; exact (g.h0 _).mp e5, e6, g.denL e7⟩
    | tre b0 t =>
      obtain ⟨v, as, e1, e2, e3, e4⟩ := okc
      exact ⟨v, as, e1, TOk.tog g t v as e2, e3, fun n e => by rw [an]; exact e4 n e⟩
end
/-- the walk J at this point -/
theorem SD.w0 {W W0' : Wd} {σ : L2.St} {c : Env} (eH : W0'.H = W0.H) (eG : W0'.G = W0.G) (s : SD K W0 W σ c) : SD K W0' W σ c := by
  have sa : W0'.sa = W0.sa := by unfold Wd.sa; rw [eG]
  have sd : W0'.sd = W0.sd := by unfold Wd.sd; rw [eG]
  have xa : W0'.xa = W0.xa := by unfold Wd.xa; rw [eG]
  have xd : W0'.xd = W0.xd := by unfold Wd.xd; rw [eG]
  have an : ∀ n, W0'.anc n = W0.anc n := fun n => by unfold Wd.anc; rw [eG]
  have mv : ∀ t v as, TOk K W0 W v t as → TOk K W0' W v t as := fun t v as h => TOk.move (Same.refl _) (fun l e => by rw [eH]; exact e) t v as (fun _ _ => ⟨rfl, rfl, rfl⟩) h
  refine ⟨s.len, fun i z w h1 h2 => ?_, s.one_move fun i b0 t v as h1 h2 h3 => mv t v as h3⟩
  have okc := s.ok i z w h1 h2
  cases w with
  | none => trivial
  | some cl =>
    cases cl with
    | fz dd => exact okc
    | own ds => obtain ⟨l, vs, e1, e2, e3, e4, e5, e6⟩ := okc; exact ⟨l, vs, e1, e2, e3, e4, by rw [eH]; exact e5, e6⟩
    | exc C ns ds => obtain ⟨fs, e1, e2, e3, e4⟩ := okc; exact ⟨fs, by rw [xa]; exact e1, by rw [xd]; exact e2, e3, e4⟩
    | slf C ns ds =>
      obtain ⟨fs, e1, e2, e3, e4, e5, e6, e7⟩ := okc
      exact ⟨fs, by rw [sa]; exact e1, by rw [sa, sd]; exact e2, by rw [sa]; exact e3, by rw [sa]; exact e4, by rw [sa, eH]; exact e5, e6, e7⟩
    | tre b0 t => obtain ⟨v, as, e1, e2, e3, e4⟩ := okc; exact ⟨v, as, e1, mv t v as e2, e3, fun n e => by rw [an]; exact e4 n e⟩
theorem yields_mono {F F' : Hp} {J : It} {ds : List D} (h : Yields K F J ds) (e : Same F F') : Yields K F' J ds := fun W i k f => h W i k (e.trans f)
theorem loop_at {J : It} {ks : List D} {tg : TG} {js : List Nat} {f : D → Env → Option Env} {tb : TS} {gb : GS} (hg : ∀ W0, VG K W0 tg js f) (hb : ∀ W0, VS K W0 E tb gb) {W : Wd} {σ : L2.St} {c : Env} {D : Ends} (k : WOk W) (u : Up W0 W) (s : SD K W0 W σ c) (y : Yields K W.F J ks)
    (q : Post K E W0 W.F D (gLoop f gb ks c)) : tFor (fun _ H R => R J H) tg tb D σ W.H := by
  have uu : ∀ {W2}, Up ⟨W0.H, W0.G, W.F⟩ W2 → Up W0 W2 := fun {W2} u2 => ⟨u2.h, u.f.trans u2.f, fun a o h => (u2.fo a o h).trans (u.fo a o h)⟩
  have vi : VI K ⟨W0.H, W0.G, W.F⟩ (fun _ H R => R J H) (fun _ => some ks) := fun W' σ' c' ds R k' u' _ e r => by
    cases e
    exact r W' J k' (Gr.refl _) (yields_mono y u'.f)
  refine vs_for (E := E) vi (hg _) (hb _) W σ c D k ⟨u.h, Same.refl _, fun _ _ _ => rfl⟩ (SD.w0 (W0 := W0) (W0' := ⟨W0.H, W0.G, W.F⟩) rfl rfl s) ?_
  show Post K E _ W.F D (gLoop f gb ks c)
  have nx : ∀ {P : L2.St → Hp → Prop} {c1 : Env}, NxP K W0 W.F P c1 → NxP K ⟨W0.H, W0.G, W.F⟩ W.F P c1 := fun h W2 σ2 k2 u2 f2 s2 => h W2 σ2 k2 (uu u2) f2 (SD.w0 (W0 := ⟨W0.H, W0.G, W.F⟩) (W0' := W0) rfl rfl s2)
  cases e : gLoop f gb ks c with
  | none => rw [e] at q; exact q
  | some o =>
    rw [e] at q
    cases o with
    | nx c1 => exact nx q
    | bk c1 => exact nx q
    | ct c1 => exact nx q
    | ret d => exact fun W2 v k2 u2 f2 h2 => q W2 v k2 (uu u2) f2 h2
    | ex C ns ds => exact fun W2 dx fs k2 u2 f2 h2 => q W2 dx fs k2 (uu u2) f2 h2
    | own t => exact fun W2 v as k2 u2 f2 h2 h3 => q W2 v as k2 (uu u2) f2 (TOk.move (W0 := ⟨W0.H, W0.G, W.F⟩) (W0' := W0) (Same.refl _) (fun _ e => e) t v as (fun _ _ => ⟨rfl, rfl, rfl⟩) h2) h3
theorem tfor_imp {wi wi' : TI} {tg : TG} {tb : TS} {D : Ends} {σ : L2.St} {H : Hp} (h : ∀ R, wi' σ H R → wi σ H R) (q : tFor wi' tg tb D σ H) : tFor wi tg tb D σ H := h _ q
/-- one of two readings -/
def tOrS (t1 t2 : TS) : TS := fun D σ H => t1 D σ H ∨ t2 D σ H
theorem ps_or {X : Cx} {st : Stmt} {t1 t2 : TS} (h1 : PS X st t1) (h2 : PS X st t2) : PS X st (tOrS t1 t2) :=
  ⟨fun pins s σ H D I h => h.elim (h1.run pins s σ H D I) (h2.run pins s σ H D I)⟩
/-- for k in x: .., x a settled dict -/
def gForK (i : Nat) (f : D → Env → Option Env) (gb : GS) : GS := fun c => match c[i]? with
  | some (some (.fz (.dct b ks ds))) => match gLoop f gb ks c with
    | some (.ex _ _ _) => none
    | r => r
  | _ => none
def kYields (K : KW) (F : Hp) (d : Addr) (u : HO) (ks : List D) : Prop := ∀ o, ∃ J, (∀ (σ : L2.St) (i : Nat) (H : Hp) R, σ[i]? = some (some (.ref d)) → H d = some (.frz o u) → R J H → iKeysX K.w (tVar i) σ H R) ∧ ∀ F' : Hp, F' d = some (.frz o u) → (∀ z z', Den K F z z' → Den K F' z z') → Yields K F' J ks
theorem kyields_K {F : Hp} {d : Addr} {kvs : List (L2.Key × V)} : kYields K F d (.dK kvs) (kvs.map fun p => kD p.1) := by
  intro o
  refine ⟨Itk d o kvs, fun σ i H R hσ hH r => ⟨_, hσ, d, o, rfl, .inl ⟨kvs, hH, r⟩⟩, fun F' hF hden W n k f => ?_⟩
  have hH : W.H d = some (.frz o (.dK kvs)) := k.fh _ _ (f _ _ hF)
  refine ⟨fun hn => ⟨hH, by simpa using hn⟩, fun dd e => ?_⟩
  rw [List.getElem?_map] at e
  obtain ⟨p, hp, rfl⟩ := Option.map_eq_some_iff.mp e
  refine ⟨⟨hH, (List.getElem?_eq_some_iff.mp hp).1⟩, fun x H' y => ⟨W, k, Gr.refl _, y.1.symm, ?_⟩⟩
  obtain ⟨_, key, v, hkv, rfl⟩ := y
  rw [hp] at hkv; cases hkv
  show Den K W.F (kV key) (kD key)
  cases key with
  | inl i => exact .int i
  | inr s => exact .str s
theorem kyields_N {F : Hp} {d : Addr} {xs : List NE} {ks : List D} (hk : DenL K F (xs.map fun x => V.ref x.2.1) ks) : kYields K F d (.ext (dφ K.w d xs)) ks := by
  intro o
  refine ⟨Itkn K.w d o xs, fun σ i H R hσ hH r => ⟨_, hσ, d, o, rfl, .inr ⟨xs, hH, r⟩⟩, fun F' hF hden W n k f => ?_⟩
  have hH : W.H d = some (.frz o (.ext (dφ K.w d xs))) := k.fh _ _ (f _ _ hF)
  have hl := hk.length
  simp at hl
  refine ⟨fun hn => ⟨hH, by omega⟩, fun dd e => ?_⟩
  obtain ⟨v, hv, hd⟩ := hk.get e
  rw [List.getElem?_map] at hv
  obtain ⟨p, hp, rfl⟩ := Option.map_eq_some_iff.mp hv
  refine ⟨⟨hH, (List.getElem?_eq_some_iff.mp hp).1⟩, fun x H' y => ⟨W, k, Gr.refl _, y.1.symm, ?_⟩⟩
  obtain ⟨_, en, hen, rfl⟩ := y
  rw [hp] at hen; cases hen
  exact (hden _ _ hd).up f
theorem forK_at {i : Nat} {tg : TG} {js : List Nat} {f : D → Env → Option Env} {tb : TS} {gb : GS} (hg : ∀ W0, VG K W0 tg js f) (hb : ∀ W0, VS K W0 E tb gb) {W : Wd} {σ : L2.St} {c : Env} {Dn : Ends} (k : WOk W) (u0 : Up W0 W) (s : SD K W0 W σ c) {ks : List D} {d : Addr} {y u : HO}
    (hσ : σ[i]? = some (some (.ref d))) (hF : W.F d = some y) (hy : Tg u y) (hdu : isD u = true) (hJ : kYields K W.F d u ks) (ne : ∀ C ns es, gLoop f gb ks c ≠ some (.ex C ns es)) (q : Post K E W0 W.F Dn (gLoop f gb ks c)) :
    tOrS (tLock (tFor (iKeysX K.w (tVar i)) tg tb)) (tFor (iKeysX K.w (tVar i)) tg tb) Dn σ W.H := by
  have hG : W.G d = some y := k.fg _ _ hF
  have hH : W.H d = some y := k.gh _ _ hG
  rcases hy with rfl | ⟨o, rfl⟩
  · -- it is locked
    refine .inl ⟨d, y, hH, by cases y <;> first | exact True.intro | (cases hdu), fun od => ?_⟩
    obtain ⟨J, hJ1, hJ2⟩ := hJ od
    let x : HO := .frz od y
    let W1 : Wd := ⟨upd W.H d x, upd W.G d x, upd W.F d x⟩
    let W1' : Wd := ⟨fun a => if a = d then (W0.H d).map (fun _ => x) else W0.H a, W0.G, upd W.F d x⟩
    have e0 : ∀ a, a ≠ d → W1'.H a = W0.H a := fun a h => if_neg h
    have e0d : W1'.H d = (W0.H d).map fun _ => x := if_pos rfl
    have g1 : Tog W0 W W1' W1 d y y x := ⟨hdu, .inl rfl, .inr ⟨od, rfl⟩, hF, upd_same, upd_same, upd_same, fun a h => upd_ne h, fun a h => upd_ne h, fun a h => upd_ne h, rfl, fun a => by
      by_cases h : a = d
      · subst h; rw [e0d]; simp
      · rw [e0 a h]⟩
    have k1 : WOk W1 := ⟨same_upd2 k.fg, same_upd2 k.gh, fun a xs e ht => by
      have e' : upd W.G d x a = some xs := e
      by_cases h : a = d
      · subst h; rw [upd_same] at e'; cases e'
        cases y <;> first | (cases ht; done) | (cases hdu; done)
      · rw [upd_ne h] at e'
        show upd W.F d x a = some xs
        rw [upd_ne h]; exact k.gt a xs e' ht⟩
    have u1 : Up W1' W1 := ⟨fun a o e => by
      by_cases h : a = d
      · subst h
        rw [e0d] at e
        obtain ⟨z, _, e⟩ := Option.map_eq_some_iff.mp e
        rw [← e]; exact upd_same
      · rw [e0 a h] at e
        show upd W.H d x a = some o
        rw [upd_ne h]; exact u0.h a o e, Same.refl _, fun _ _ _ => rfl⟩
    refine tfor_imp (wi' := fun _ H R => R J H) (fun R r => hJ1 σ i _ R hσ upd_same r) ?_
    have back : ∀ {W2 : Wd}, WOk W2 → Up W1' W2 → Same W1.F W2.F → W2.H d = some x ∧ WOk ⟨upd W2.H d y, upd W2.G d y, upd W2.F d y⟩ ∧ Up W0 ⟨upd W2.H d y, upd W2.G d y, upd W2.F d y⟩ ∧ Same W.F (upd W2.F d y) ∧ Tog W1' W2 W0 ⟨upd W2.H d y, upd W2.G d y, upd W2.F d y⟩ d y x y := by
      intro W2 k2 u2 f2
      have hF2 : W2.F d = some x := f2 d x upd_same
      refine ⟨k2.fh _ _ hF2, ⟨same_upd2 k2.fg, same_upd2 k2.gh, fun a xs e ht => ?_⟩, ⟨fun a o e => ?_, fun a o e => ?_, fun a o e => ?_⟩, fun a o e => ?_, ⟨hdu, .inr ⟨od, rfl⟩, .inl rfl, hF2, upd_same, upd_same, upd_same, fun a h => upd_ne h, fun a h => upd_ne h, fun a h => upd_ne h, rfl, fun a => (g1.h0 a).symm⟩⟩
      · have e' : upd W2.G d y a = some xs := e
        by_cases h : a = d
        · subst h; rw [upd_same] at e'; cases e'
          cases y <;> first | (cases ht; done) | (cases hdu; done)
        · rw [upd_ne h] at e'
          show upd W2.F d y a = some xs
          rw [upd_ne h]; exact k2.gt a xs e' ht
      · show upd W2.H d y a = some o
        by_cases h : a = d
        · subst h
          have := u0.h a o e
          rw [hH] at this; cases this
          exact upd_same
        · rw [upd_ne h]; exact u2.h a o (by rw [e0 a h]; exact e)
      · show upd W2.F d y a = some o
        have e2 := u0.f a o e
        by_cases h : a = d
        · subst h
          rw [hF] at e2; cases e2
          exact upd_same
        · rw [upd_ne h]; exact u2.f a o (show upd W.F d x a = some o by rw [upd_ne h]; exact e2)
      · show upd W2.F d y a = W0.F a
        by_cases h : a = d
        · subst h
          rw [upd_same, ← u0.fo a o e]; exact hF.symm
        · rw [upd_ne h, u2.fo a o (by rw [e0 a h]; exact e)]
          show upd W.F d x a = W0.F a
          rw [upd_ne h]; exact u0.fo a o e
      · show upd W2.F d y a = some o
        by_cases h : a = d
        · subst h
          rw [hF] at e; cases e
          exact upd_same
        · rw [upd_ne h]; exact u2.f a o (show upd W.F d x a = some o by rw [upd_ne h]; exact e)
    refine loop_at (ks := ks) hg hb k1 u1 (SD.tog k g1 s) (hJ2 W1.F upd_same fun z z' h => g1.den h) ?_
    have nx : ∀ {P : L2.St → Hp → Prop} {c1 : Env}, NxP K W0 W.F P c1 → NxP K W1' W1.F (fun σ' H' => H' d = some (.frz od y) ∧ P σ' (upd H' d y)) c1 := fun h W2 σ2 k2 u2 f2 s2 => by
      obtain ⟨b1, b2, b3, b4, b5⟩ := back k2 u2 f2
      exact ⟨b1, h _ σ2 b2 b3 b4 (SD.tog k2 b5 s2)⟩
    cases e : gLoop f gb ks c with
    | none => rw [e] at q; exact q
    | some o =>
      rw [e] at q
      cases o with
      | nx c1 => exact nx q
      | bk c1 => exact nx q
      | ct c1 => exact nx q
      | ret dd =>
        intro W2 v k2 u2 f2 h2
        obtain ⟨b1, b2, b3, b4, b5⟩ := back k2 u2 f2
        exact ⟨b1, q _ v b2 b3 b4 (b5.den h2)⟩
      | ex C ns ds => exact (ne _ _ _ e).elim
      | own t =>
        intro W2 v as k2 u2 f2 h2 h3
        obtain ⟨b1, b2, b3, b4, b5⟩ := back k2 u2 f2
        exact ⟨b1, q _ v as b2 b3 b4 (TOk.tog b5 t v as h2) h3⟩
  · obtain ⟨J, hJ1, hJ2⟩ := hJ o
    refine .inr (tfor_imp (wi' := fun _ H R => R J H) (fun R r => hJ1 σ i _ R hσ hH r) ?_)
    exact loop_at hg hb k u0 s (hJ2 W.F hF fun _ _ h => h) q
theorem vs_forK {i : Nat} {tg : TG} {js : List Nat} {f : D → Env → Option Env} {tb : TS} {gb : GS} (hg : ∀ W0, VG K W0 tg js f) (hb : ∀ W0, VS K W0 E tb gb) :
    VS K W0 E (tOrS (tLock (tFor (iKeysX K.w (tVar i)) tg tb)) (tFor (iKeysX K.w (tVar i)) tg tb)) (gForK i f gb) := by
  intro W σ c D k u0 s q
  unfold gForK at q
  split at q
  · rename_i b ks ds hc
    obtain ⟨xv, hx, v, rfl, hd⟩ := s.at hc
    have ne : ∀ C ns es, gLoop f gb ks c ≠ some (.ex C ns es) := fun C ns es e => by rw [e] at q; exact q
    have q' : Post K E W0 W.F D (gLoop f gb ks c) := by
      cases e : gLoop f gb ks c with
      | none => rw [e] at q; exact q
      | some o =>
        rw [e] at q
        cases o with
        | ex C ns es => exact q.elim
        | _ => exact q
    cases hd with
    | @dK a kvs _ _ h1 h2 h3 =>
      subst h2
      rcases h1 with h1 | ⟨o, h1⟩
      · exact forK_at hg hb k u0 s hx h1 (.inl rfl) rfl kyields_K ne q'
      · exact forK_at hg hb k u0 s hx h1 (.inr ⟨o, rfl⟩) rfl kyields_K ne q'
    | @dN a xs vs _ _ h1 h2 h3 h4 h5 =>
      rcases h1 with h1 | ⟨o, h1⟩
      · exact forK_at hg hb k u0 s hx h1 (.inl rfl) rfl (kyields_N h2) ne q'
      · exact forK_at hg hb k u0 s hx h1 (.inr ⟨o, rfl⟩) rfl (kyields_N h2) ne q'
  · exact q.elim
end
end VL
end

section
/-! VW6: new dicts: displays, comprehensions; get with a default; p[k] op= e. -/
namespace VL
open PySem PySem.Spec PyProof.Rows L2
section
variable {K : KW} {E : XK} {W0 : Wd}
/-! ### one cell more -/
theorem SD.unext {W : Wd} {σ : L2.St} {c : Env} {x : Option V} {y : Option Cell} (s : SD K W0 W (σ ++ [x]) (c ++ [y])) : SD K W0 W σ c := by
  have hl : σ.length = c.length := by have := s.len; simpa using this
  have up : ∀ (i : Nat) z, σ[i]? = some z → (σ ++ [x])[i]? = some z := fun i z h => by rw [List.getElem?_append_left (List.getElem?_eq_some_iff.mp h).1]; exact h
  have upc : ∀ (i : Nat) z, c[i]? = some z → (c ++ [y])[i]? = some z := fun i z h => by rw [List.getElem?_append_left (List.getElem?_eq_some_iff.mp h).1]; exact h
  exact ⟨hl, fun i z w h1 h2 => s.ok i z w (up i z h1) (upc i w h2), fun i j x y z u l h1 h2 h3 h4 => s.one i j x y z u l (up i x h1) (upc i y h2) (up j z h3) (upc j u h4)⟩
theorem SD.ext {W : Wd} {σ : L2.St} {c : Env} {x : Option V} {y : Option Cell} (s : SD K W0 W σ c) (hc : CellOk K W0 W x y) (hn : ∀ l, Holds K W0 W x y l → ∀ (j : Nat) z w, σ[j]? = some z → c[j]? = some w → ¬ Holds K W0 W z w l) : SD K W0 W (σ ++ [x]) (c ++ [y]) := by
  have cases' : ∀ (i : Nat) z w, (σ ++ [x])[i]? = some z → (c ++ [y])[i]? = some w → (i < σ.length ∧ σ[i]? = some z ∧ c[i]? = some w) ∨ (i = σ.length ∧ z = x ∧ w = y) := by
    intro i z w h1 h2
    by_cases hi : i < σ.length
    · rw [List.getElem?_append_left hi] at h1
      rw [List.getElem?_append_left (by rw [← s.len]; exact hi)] at h2
      exact .inl ⟨hi, h1, h2⟩
    · have := (List.getElem?_eq_some_iff.mp h1).1
      have e : i = σ.length := by simp at this; omega
      subst e
      rw [List.getElem?_append_right (Nat.le_refl _)] at h1
      rw [s.len, List.getElem?_append_right (Nat.le_refl _)] at h2
      simp at h1 h2
      exact .inr ⟨rfl, h1.symm, h2.symm⟩
  refine ⟨by simp [s.len], fun i z w h1 h2 => ?_, fun i j x1 y1 z1 u1 l h1 h2 h3 h4 h5 h6 => ?_⟩
  · rcases cases' i z w h1 h2 with ⟨_, a, b⟩ | ⟨_, rfl, rfl⟩
    · exact s.ok i z w a b
    · exact hc
  · rcases cases' i x1 y1 h1 h2 with ⟨p1, a, b⟩ | ⟨rfl, rfl, rfl⟩
    · rcases cases' j z1 u1 h3 h4 with ⟨p2, a2, b2⟩ | ⟨rfl, rfl, rfl⟩
      · exact s.one i j _ _ _ _ l a b a2 b2 h5 h6
      · exact (hn l h6 i _ _ a b h5).elim
    · rcases cases' j z1 u1 h3 h4 with ⟨p2, a2, b2⟩ | ⟨rfl, rfl, rfl⟩
      · exact (hn l h5 j _ _ a2 b2 h6).elim
      · rfl
theorem ext_last {W : Wd} {σ : L2.St} {c : Env} {v0 : V} {a : Option Nat} {t : T} (s : SD K W0 W (σ ++ [some v0]) (c ++ [some (.tre a t)])) : ∃ as, TOk K W0 W v0 t as ∧ as.Nodup := by
  have hl : σ.length = c.length := by have := s.len; simpa using this
  obtain ⟨v, as, e, h1, h2, _⟩ := s.ok c.length (some v0) (some (.tre a t)) (by rw [← hl]; simp) (by simp)
  cases e
  exact ⟨as, h1, h2⟩
theorem dPut_shape {b : Bool} {ks : List D} {ts : List T} {d : D} {ky : NestedKey} {x : T} : ∃ ks' ts', dPut b ks ts d ky x = .dct b ks' ts' := by
  unfold dPut
  split <;> exact ⟨_, _, rfl⟩
/-- an entry of the dict in the last cell -/
theorem ext_put {W : Wd} {σ : L2.St} {c : Env} {b : Bool} {ks : List D} {ts : List T} {Dd : Addr} {y z : V} {d : D} {ky : NestedKey} {x : T} {as2 : List Addr} (k : WOk W) (u : Up W0 W) (s : SD K W0 W (σ ++ [some (.ref Dd)]) (c ++ [some (.tre none (.dct b ks ts))])) (hx : Den K W.F y d) (hk : d.kk b = some ky)
    (hv : TOk K W0 W z x as2) (n2 : as2.Nodup) (hf : ∀ a ∈ as2, ∀ (j : Nat) z w, (σ ++ [some (V.ref Dd)])[j]? = some z → (c ++ [some (Cell.tre none (.dct b ks ts))])[j]? = some w → ¬ Holds K W0 W z w a) (hz : ks.length < sizeLine) {P : Hp → Prop}
    (q : ∀ o as as', TOk K W0 W (.ref Dd) (.dct b ks ts) as → Dd ∈ as → TOk K W0 (W.wt Dd o) (.ref Dd) (dPut b ks ts d ky x) as' → (∀ a ∈ as', a ∈ as ∨ a ∈ as2) → WOk (W.wt Dd o) → Up W0 (W.wt Dd o) → SD K W0 (W.wt Dd o) (σ ++ [some (.ref Dd)]) (c ++ [some (.tre none (dPut b ks ts d ky x))]) → P (W.wt Dd o).H) :
    DSetX K.k K.w W.H Dd y z P := by
  have hl : σ.length = c.length := by have := s.len; simpa using this
  have hσ : (σ ++ [some (V.ref Dd)])[c.length]? = some (some (.ref Dd)) := by rw [← hl]; simp
  have hc : (c ++ [some (Cell.tre none (.dct b ks ts))])[c.length]? = some (some (.tre none (.dct b ks ts))) := by simp
  obtain ⟨v, as, e, ht, hn, _⟩ := s.ok _ _ _ hσ hc
  cases e
  obtain ⟨bs, rfl⟩ : ∃ bs, as = Dd :: bs := by cases ht <;> exact ⟨_, rfl⟩
  rw [List.nodup_cons] at hn
  have hold : ∀ a ∈ Dd :: bs, Holds K W0 W (some (.ref Dd)) (some (.tre none (.dct b ks ts))) a := fun a ha => .inr ⟨_, _, _, _, rfl, rfl, ht, ha⟩
  have ni : ∀ a ∈ Dd :: bs, a ∉ as2 := fun a ha h2 => hf a h2 _ _ _ hσ hc (hold a ha)
  refine dct_put k ht hn.1 hn.2 hx hk hv n2 (ni Dd (by simp)) (fun a ha b hb z => ni a (by simp [ha]) (z ▸ hb)) hz fun o cs ho hT hcn hcs => ?_
  obtain ⟨k3, u3, s3⟩ := wr_tre k u s hσ hc ht (by simp) ho hT hcn fun a ha => (hcs a ha).imp id fun h => hf a h
  have e : (c ++ [some (Cell.tre none (.dct b ks ts))]).set c.length (some (.tre none (dPut b ks ts d ky x))) = c ++ [some (.tre none (dPut b ks ts d ky x))] := by
    rw [List.set_append_right _ _ (Nat.le_refl _)]; simp
  rw [e] at s3
  exact q o _ _ ht (by simp) hT hcs k3 u3 s3
/-- a new dict in a cell more -/
theorem ext_new {W : Wd} {σ : L2.St} {c : Env} {b : Bool} {Dd : Addr} (k : WOk W) (u : Up W0 W) (s : SD K W0 W σ c) (hD : W.H Dd = none) (hs : (Dd == sysModules) = false) :
    WOk (W.new false Dd (dNew K.w b Dd)) ∧ Gr W (W.new false Dd (dNew K.w b Dd)) ∧ SD K W0 (W.new false Dd (dNew K.w b Dd)) (σ ++ [some (.ref Dd)]) (c ++ [some (.tre none (.dct b [] []))]) ∧ TOk K W0 (W.new false Dd (dNew K.w b Dd)) (.ref Dd) (.dct b [] []) [Dd] := by
  have k2 : WOk (W.new false Dd (dNew K.w b Dd)) := new_ok k hD
  have g2 : Gr W (W.new false Dd (dNew K.w b Dd)) := new_gr k hD
  have nt : isTup (dNew K.w b Dd) = false := by cases b <;> rfl
  have hF : (W.new false Dd (dNew K.w b Dd)).F Dd = none := by
    show (if (false || isTup (dNew K.w b Dd)) = true then _ else W.F) Dd = none
    rw [nt]
    exact k.nF hD
  have ht : TOk K W0 (W.new false Dd (dNew K.w b Dd)) (.ref Dd) (.dct b [] []) [Dd] := by
    cases b with
    | false => exact .dK (kvs := []) upd_same upd_same hF (u.h.free hD) ⟨rfl, List.nodup_nil, Nat.zero_le _⟩ .nil
    | true => exact .dN (xs := []) (vs := []) upd_same upd_same hF (u.h.free hD) ⟨hs, Nat.zero_le _, List.nodup_nil⟩ .nil rfl .nil .nil
  refine ⟨k2, g2, (s.gr g2).ext ⟨_, _, rfl, ht, by simp, fun _ e => nomatch e⟩ fun l hh => ?_, ht⟩
  rcases hh with ⟨_, h⟩ | ⟨b0, t, v, as, e1, e2, h3, h4⟩
  · exact absurd h Bool.false_ne_true
  · cases e1; cases e2
    rw [TOk.det _ _ _ _ h3 ht] at h4
    have : l = Dd := by simpa using h4
    subst this
    exact fresh_noHold s g2 hD
theorem gr_wt {W1 W : Wd} {Dd : Addr} {o : HO} (g : Gr W1 W) (k1 : WOk W1) (h : W1.H Dd = none) : Gr W1 (W.wt Dd o) := by
  have ne : ∀ a u, W1.H a = some u → a ≠ Dd := fun a u e z => by rw [z, h] at e; cases e
  exact ⟨fun a u e => (upd_ne (ne a u e)).trans (g.h a u e), fun a u e => (gUp_ne (ne a u (k1.gh a u e))).trans (g.g a u e), g.f, fun a u e => (gUp_ne (ne a u e)).trans (g.go a u e), g.fo⟩
/-- {} -/
def tgD0 (b : Bool) : Env → Option T := fun _ => some (.dct b [] [])
theorem d0_run {b : Bool} {W : Wd} {σ : L2.St} {c : Env} {Q : VK} (k : WOk W) (u : Up W0 W) (s : SD K W0 W σ c) (q : ∀ W' v as, WOk W' → Gr W W' → TOk K W0 W' v (.dct b [] []) as → as.Nodup → (∀ l ∈ as, W.H l = none) → Q v W'.H) :
    ∀ p, W.H p = none → (p == sysModules) = false → Q (.ref p) (upd W.H p (dNew K.w b p)) := fun p hp hs => by
  obtain ⟨k2, g2, _, ht⟩ := ext_new (b := b) k u s hp hs
  exact q _ _ [p] k2 g2 ht (by simp) (fun l hl => by rw [List.mem_singleton.mp hl]; exact hp)
theorem vtr_d0K : VTr K W0 tDNewK (tgD0 false) := by
  intro W σ c t Q k u s e q
  cases e
  intro p hp
  have ht : TOk K W0 (W.new false p (.dK [])) (.ref p) (.dct false [] []) [p] := .dK (kvs := []) upd_same upd_same (k.nF hp) (u.h.free hp) ⟨rfl, List.nodup_nil, Nat.zero_le _⟩ .nil
  exact q (W.new false p (.dK [])) _ [p] (new_ok k hp) (new_gr k hp) ht (by simp) (fun l hl => by rw [List.mem_singleton.mp hl]; exact hp)
theorem vtr_d0N : VTr K W0 (tDNewN K.w) (tgD0 true) := by
  intro W σ c t Q k u s e q
  cases e
  exact d0_run (b := true) k u s q
/-- {k: e} -/
def tgD1 (b : Bool) (gk : GE) (gt : Env → Option T) : Env → Option T := fun c => match gk c with
  | some d => match gt c with
    | some x => match d.kk b with
      | some _ => some (.dct b [d] [x])
      | none => none
    | none => none
  | none => none
theorem vtr_d1 {b : Bool} {tk tv : TE} {gk : GE} {gt : Env → Option T} (hk : VT K W0 true tk gk) (hv : VTr K W0 tv gt) : VTr K W0 (tDispX K.k K.w b [(tk, tv)]) (tgD1 b gk gt) := by
  intro W σ c t Q k u s e q
  unfold tgD1 at e
  split at e
  · rename_i d hd
    split at e
    · rename_i x hx
      split at e
      · rename_i ky hky
        cases e
        intro p hp hs
        obtain ⟨k1, g1, s1, t1⟩ := ext_new (b := b) k u s hp hs
        refine hk (W.new false p (dNew K.w b p)) σ c d _ k1 (u.gr g1) (s.gr g1) hd fun W2 y k2 g2 hy => ?_
        refine hv W2 σ c x _ k2 ((u.gr g1).gr g2) ((s.gr g1).gr g2) hx fun W3 z as2 k3 g3 hz n2 f2 => ?_
        have s3 := (s1.gr g2).gr g3
        refine ext_put (ks := []) (ts := []) k3 (((u.gr g1).gr g2).gr g3) s3 (hy.up g3.f) hky hz n2 (fun a ha => fresh_noHold (s1.gr g2) g3 (f2 a ha)) (by decide) fun o as as' e1 e2 e3 e4 k4 u4 s4 => ?_
        have fr : ∀ a ∈ as', W.H a = none := fun a ha => by
          rcases e4 a ha with h | h
          · rw [TOk.det _ _ _ _ e1 ((t1.gr g2).gr g3)] at h
            have : a = p := by simpa using h
            rw [this]; exact hp
          · exact (g1.trans g2).h.free (f2 a h)
        have hn : as'.Nodup := by
          obtain ⟨bs, q2, q3⟩ := ext_last s4
          rw [TOk.det _ _ _ _ e3 q2]; exact q3
        have e5 : dPut b [] [] d ky x = .dct b [d] [x] := rfl
        rw [e5] at e3
        exact q (W3.wt p o) _ as' k4 (gr_wt ((g1.trans g2).trans g3) k hp) e3 hn fr
      · cases e
    · cases e
  · cases e
/-! comprehensions -/
def gDcL (b : Bool) (f : D → Env → Option Env) (p : GB) (gk : GE) (gt : Env → Option T) (c : Env) : List D → List D → List T → Option T
  | [], ks, ts => some (.dct b ks ts)
  | d :: ds, ks, ts => match f d c with
    | none => none
    | some c1 => match p c1 with
      | none => none
      | some false => gDcL b f p gk gt c ds ks ts
      | some true => match gk c1 with
        | none => none
        | some y => match gt c1 with
          | none => none
          | some x => match y.kk b with
            | none => none
            | some ky => if ks.length < sizeLine then match dPut b ks ts y ky x with
                | .dct _ ks' ts' => gDcL b f p gk gt c ds ks' ts'
                | _ => none
              else none
def tgDc (b : Bool) (gi : GA) (f : D → Env → Option Env) (p : GB) (gk : GE) (gt : Env → Option T) (vs : List Nat) : Env → Option T := fun c => match gi c with
  | some ds => gDcL b f p gk gt (wipeC c vs) ds [] []
  | none => none
theorem vtr_dc {b : Bool} {wi : TI} {gi : GA} {tg : TG} {vs js : List Nat} {f : D → Env → Option Env} {tt : TT} {p : GB} {tk tv : TE} {gk : GE} {gt : Env → Option T}
    (hi : VI K W0 wi gi) (hg : VG K W0 tg js f) (hj : ∀ j ∈ js, j ∈ vs) (hp : VB K W0 tt p) (hk : VT K W0 true tk gk) (hv : VTr K W0 tv gt) : VTr K W0 (tDcX K.k K.w b wi tg tt tk tv vs) (tgDc b gi f p gk gt vs) := by
  intro W σ c t Q k u s e q
  unfold tgDc at e
  split at e
  · rename_i ds hds
    refine hi W σ c ds _ k u s hds fun W1 J k1 g1 y1 => fun Dd hD hs => ?_
    have s1 := sd_wipe (s.gr g1) vs
    obtain ⟨k2, g2, s2, t2⟩ := ext_new (b := b) k1 (u.gr g1) s1 hD hs
    let St : Nat → Hp → Prop := fun i H => ∃ Wx ks ts, Wx.H = H ∧ WOk Wx ∧ Gr W1 Wx ∧ Up W0 Wx ∧ SD K W0 Wx (wipe σ vs ++ [some (.ref Dd)]) (wipeC c vs ++ [some (.tre none (.dct b ks ts))]) ∧
      (∀ as, TOk K W0 Wx (.ref Dd) (.dct b ks ts) as → ∀ a ∈ as, W1.H a = none) ∧ gDcL b f p gk gt (wipeC c vs) (ds.drop i) ks ts = some t
    refine ⟨fun i m H => m = ds.length - i ∧ i ≤ ds.length ∧ St i H, ⟨_, rfl, Nat.zero_le _, _, [], [], rfl, k2, g2, (u.gr g1).gr g2, s2, fun as h a ha => ?_, by rw [List.drop_zero]; exact e⟩, ?_⟩
    · rw [TOk.det _ _ _ _ h t2] at ha
      have : a = Dd := by simpa using ha
      rw [this]; exact hD
    · rintro i m H ⟨rfl, him, Wx, ks, ts, rfl, kx, gx, ux, sx, fr, hr⟩
      by_cases hlt : i < ds.length
      · right
        have hd : ds[i]? = some ds[i] := List.getElem?_eq_getElem hlt
        obtain ⟨go, yl⟩ := (y1 Wx i kx gx.f).2 _ hd
        rw [List.drop_eq_getElem_cons hlt] at hr
        refine ⟨go, St (i + 1), fun H' h => ⟨ds.length - (i + 1), by omega, rfl, hlt, h⟩, fun x H' hy => ?_⟩
        obtain ⟨W3, k3, g3, rfl, d3⟩ := yl x H' hy
        unfold gDcL at hr
        cases e1 : f ds[i] (wipeC c vs) with
        | none => rw [e1] at hr; cases hr
        | some c1 =>
          simp only [e1] at hr
          refine hg W3 _ _ c1 x _ _ k3 (sx.gr g3).unext d3 e1 fun σ' s' l' a' => ⟨?_, ?_⟩
          · rw [← wipe_wipe σ vs]
            exact wipe_eq l' fun j' hj' => a' j' fun z => hj' (hj j' z)
          cases e2 : p c1 with
          | none => rw [e2] at hr; cases hr
          | some bb =>
            simp only [e2] at hr
            refine hp W3 σ' c1 bb _ k3 (ux.gr g3) s' e2 fun W4 k4 g4 => ?_
            cases bb with
            | false =>
              rw [if_neg Bool.false_ne_true]
              refine ⟨W4, ks, ts, rfl, k4, (gx.trans g3).trans g4, (ux.gr g3).gr g4, (sx.gr g3).gr g4, fun as h a ha => ?_, hr⟩
              obtain ⟨bs, q2, _⟩ := ext_last sx
              rw [TOk.det _ _ _ _ h ((q2.gr g3).gr g4)] at ha
              exact fr _ q2 a ha
            | true =>
              rw [if_pos rfl]
              cases e3 : gk c1 with
              | none => simp only [e3] at hr; cases hr
              | some y =>
                simp only [e3] at hr
                refine hk W4 σ' c1 y _ k4 ((ux.gr g3).gr g4) (s'.gr g4) e3 fun W5 vk k5 g5 dk => ?_
                cases e4 : gt c1 with
                | none => simp only [e4] at hr; cases hr
                | some xx =>
                  simp only [e4] at hr
                  refine hv W5 σ' c1 xx _ k5 (((ux.gr g3).gr g4).gr g5) ((s'.gr g4).gr g5) e4 fun W6 vz as2 k6 g6 dz n2 f2 => ?_
                  cases e5 : y.kk b with
                  | none => simp only [e5] at hr; cases hr
                  | some ky =>
                    simp only [e5] at hr
                    by_cases hz : ks.length < sizeLine
                    case neg => rw [if_neg hz] at hr; cases hr
                    rw [if_pos hz] at hr
                    obtain ⟨ks', ts', esh⟩ := dPut_shape (b := b) (ks := ks) (ts := ts) (d := y) (ky := ky) (x := xx)
                    rw [esh] at hr
                    have hr' : gDcL b f p gk gt (wipeC c vs) (ds.drop (i + 1)) ks' ts' = some t := hr
                    have s5 := ((sx.gr g3).gr g4).gr g5
                    refine ext_put k6 ((((ux.gr g3).gr g4).gr g5).gr g6) (s5.gr g6) (dk.up g6.f) e5 dz n2 (fun a ha => fresh_noHold s5 g6 (f2 a ha)) hz fun o as as' p1 p2 p3 p4 k7 u7 s7 => ?_
                    rw [esh] at p3 s7
                    refine ⟨W6.wt Dd o, ks', ts', rfl, k7, gr_wt ((((gx.trans g3).trans g4).trans g5).trans g6) k1 hD, u7, s7, fun bs h a ha => ?_, hr'⟩
                    rw [TOk.det _ _ _ _ h p3] at ha
                    rcases p4 a ha with w | w
                    · obtain ⟨bs', q2, _⟩ := ext_last sx
                      rw [TOk.det _ _ _ _ p1 ((((q2.gr g3).gr g4).gr g5).gr g6)] at w
                      exact fr _ q2 a w
                    · exact (((gx.trans g3).trans g4).trans g5).h.free (f2 a w)
      · left
        have hi' : i = ds.length := by omega
        subst hi'
        rw [List.drop_length] at hr
        cases hr
        obtain ⟨bs, q2, q3⟩ := ext_last sx
        exact ⟨(y1 Wx _ kx gx.f).1 (Nat.le_refl _), q Wx _ bs kx (g1.trans gx) q2 q3 fun a ha => g1.h.free (fr _ q2 a ha)⟩
  · cases e
end
end VL
end

section
/-! VW7: a name takes what another one held; get with a default. -/
namespace VL
open PySem PySem.Spec PyProof.Rows L2
section
variable {K : KW} {E : XK} {W0 : Wd}
theorem SD.forget {W : Wd} {σ : L2.St} {c : Env} (s : SD K W0 W σ c) (j : Nat) : SD K W0 W σ (c.set j none) := by
  have at' : ∀ (i : Nat) y, (c.set j none)[i]? = some y → (i = j ∧ y = none) ∨ c[i]? = some y := by
    intro i y h
    by_cases hij : j = i
    · subst hij
      by_cases hl : j < c.length
      · rw [List.getElem?_set_self hl] at h; cases h; exact .inl ⟨rfl, rfl⟩
      · rw [List.getElem?_eq_none (by simpa using hl)] at h; cases h
    · rw [List.getElem?_set_ne hij] at h; exact .inr h
  refine ⟨by simp [s.len], fun i x y h1 h2 => ?_, fun i m x y z w l h1 h2 h3 h4 h5 h6 => ?_⟩
  · rcases at' i y h2 with ⟨_, rfl⟩ | h
    · cases x <;> trivial
    · exact s.ok i x y h1 h
  · rcases at' i y h2 with ⟨_, rfl⟩ | h
    · exact (noHold_none h5).elim
    · rcases at' m w h4 with ⟨_, rfl⟩ | h'
      · exact (noHold_none h6).elim
      · exact s.one i m x y z w l h1 h h3 h' h5 h6
/-- x = y, y's list or structure is x's from now on -/
def gMv (i j : Nat) : GS := fun c => match c[j]? with
  | some (some (.own ds)) => some (.nx ((c.set j none).set i (some (.own ds))))
  | some (some (.tre none t)) => some (.nx ((c.set j none).set i (some (.tre none t))))
  | _ => none
theorem vs_mv (i j : Nat) : VS K W0 E (tAsg (tVar j) (gName i)) (gMv i j) := by
  intro W σ c D k u s q
  have main : ∀ cl, c[j]? = some (some cl) → Post K E W0 W.F D (some (.nx ((c.set j none).set i (some cl)))) → tAsg (tVar j) (gName i) D σ W.H := by
    intro cl hc q
    obtain ⟨x, hx, ok⟩ := s.at hc
    have hv : ∃ v, x = some v := by
      cases cl with
      | fz d => obtain ⟨v, h, _⟩ := ok; exact ⟨v, h⟩
      | own ds => obtain ⟨l, vs, h, _⟩ := ok; exact ⟨_, h⟩
      | slf C ns ds => obtain ⟨fs, h, _⟩ := ok; exact ⟨_, h⟩
      | exc C ns ds => obtain ⟨fs, h, _⟩ := ok; exact ⟨_, h⟩
      | tre a t => obtain ⟨v, as, h, _⟩ := ok; exact ⟨v, h⟩
    obtain ⟨v, rfl⟩ := hv
    refine ⟨v, hx, q W _ k u (Same.refl _) (sd_set (s.forget j) i _ _ ok ?_)⟩
    intro l hh m z w h3 h4 h5
    by_cases hmj : j = m
    · subst hmj
      rw [List.getElem?_set_self (List.getElem?_eq_some_iff.mp hc).1] at h4
      cases h4
      exact (noHold_none h5).elim
    · rw [List.getElem?_set_ne hmj] at h4
      exact (hmj (s.one j m _ _ _ _ l hx hc h3 h4 hh h5)).elim
  unfold gMv at q
  split at q
  · rename_i ds hc; exact main _ hc q
  · rename_i t hc; exact main _ hc q
  · exact q.elim
/-! d.get(k, e) -/
def gGet2 (g gk gx : GE) : GE := fun c => match g c with
  | some (.dct b ks ds) => match gk c with
    | some y => match y.kk b with
      | some k => match gx c with
        | some z => some ((dAt b ks ds k).getD z)
        | none => none
      | none => none
    | none => none
  | _ => none
theorem vt_get2 {b b' : Bool} {td ty tx : TE} {g gk gx : GE} (h : VT K W0 b td g) (hk : VT K W0 b' ty gk) (hx : VT K W0 b tx gx) : VT K W0 b (tDGet2X K.k K.w td ty tx) (gGet2 g gk gx) := by
  intro W σ c d Q k u s e q
  unfold gGet2 at e
  split at e
  · rename_i bb ks ds hd
    split at e
    · rename_i y hy
      split at e
      · rename_i ky hky
        split at e
        · rename_i z hz
          cases e
          refine h W σ c _ _ k u s hd fun W1 v k1 g1 d1 => ?_
          obtain ⟨a0, e0⟩ : ∃ a, v = .ref a := by cases d1 <;> exact ⟨_, rfl⟩
          subst e0
          refine ⟨a0, rfl, ?_, hk W1 σ c y _ k1 (u.gr g1) (s.gr g1) hy fun W2 v2 k2 g2 d2 => hx W2 σ c z _ k2 ((u.gr g1).gr g2) ((s.gr g1).gr g2) hz fun W3 v3 k3 g3 d3 => ?_⟩
          · cases d1 with
            | dK h1 h2 h3 => exact .inl ⟨_, rd_same (k1.atH b) h1⟩
            | @dN _ xs vs _ _ h1 h2 h3 h4 h5 =>
              refine .inr ⟨xs, rd_same (k1.atH b) h1, fun x hx => ?_⟩
              have := denL_nk_at xs ks h2 h3 x hx
              exact ⟨nk_same (k1.atH b) this.1, this.2⟩
          · obtain ⟨a, o, e1, _, e3, _, e5⟩ := dct_get (K := K) ((k1.atG b).trans (g2.trans g3).g) d1 ((d2.up (k2.atG b')).up g3.g) hky
            cases e1
            refine ⟨o, e3.up k3.gh, q W3 _ k3 (g1.trans (g2.trans g3)) ?_⟩
            cases o with
            | none =>
              cases ed : dAt bb ks ds ky with
              | none => exact d3
              | some dd => rw [ed] at e5; exact e5.elim
            | some vv =>
              cases ed : dAt bb ks ds ky with
              | none => rw [ed] at e5; exact e5.elim
              | some dd => rw [ed] at e5; exact Den.up e5 ((g2.trans g3).at b)
        · cases e
      · cases e
    · cases e
  · cases e
/-- .. of a dict of one's own, whose values are settled -/
def gGet2P (gp : Env → Option (Nat × List Nat)) (gk gx : GE) : GE := fun c => match atP gp c with
  | some (_, _, _, .dct b ks ts) => match gk c with
    | some y => match y.kk b with
      | some k => match gx c with
        | some z => match kIx b ks k with
          | none => some z
          | some n => match ts[n]? with
            | some (.leaf d) => some d
            | _ => none
        | none => none
      | none => none
    | none => none
  | _ => none
theorem TOkL.get {W : Wd} : ∀ {ts : List T} {vs : List V} {as : List Addr} {n : Nat} {t : T}, TOkL K W0 W vs ts as → ts[n]? = some t → ∃ v bs, vs[n]? = some v ∧ TOk K W0 W v t bs
  | [], _, _, _, _, _, e => by simp at e
  | t0 :: ts, _, _, 0, t, h, e => by
    cases h with
    | cons h1 h2 => simp at e; subst e; exact ⟨_, _, rfl, h1⟩
  | t0 :: ts, _, _, n + 1, t, h, e => by
    cases h with
    | cons h1 h2 =>
      obtain ⟨v, bs, q1, q2⟩ := TOkL.get (n := n) h2 (by simpa using e)
      exact ⟨v, bs, by simpa using q1, q2⟩
theorem vt_get2P {b' : Bool} {td ty tx : TE} {gp : Env → Option (Nat × List Nat)} {gk gx : GE} (h : VP K W0 td gp) (hk : VT K W0 b' ty gk) (hx : VT K W0 true tx gx) : VT K W0 true (tDGet2X K.k K.w td ty tx) (gGet2P gp gk gx) := by
  intro W σ c d Q k u s e q
  unfold gGet2P at e
  split at e
  · rename_i i π t bb ks ts ha
    obtain ⟨a0, e1, e2, e3⟩ := atP_some ha
    split at e
    · rename_i y hy
      split at e
      · rename_i ky hky
        split at e
        · rename_i z hz
          refine h W σ c i π _ k u s e1 fun W1 v0 v1 t0 t2 as a1 a2 a3 k1 g1 h1 h2 h3 h4 h5 h6 => ?_
          obtain ⟨_, h1⟩ := h1; rw [e2] at h1; cases h1
          rw [e3] at h3; cases h3
          have hT := h6.2.1
          obtain ⟨a, rfl⟩ : ∃ a, v1 = .ref a := by cases hT <;> exact ⟨_, rfl⟩
          refine ⟨a, rfl, ?_, hk W1 σ c y _ k1 (u.gr g1) (s.gr g1) hy fun W2 v2 k2 g2 d2 => hx W2 σ c z _ k2 ((u.gr g1).gr g2) ((s.gr g1).gr g2) hz fun W3 v3 k3 g3 d3 => ?_⟩
          · cases hT with
            | dK q1 => exact .inl ⟨_, .inl q1⟩
            | @dN _ xs vs _ _ _ q1 q2 q3 q4 q5 q6 q7 q8 q9 =>
              refine .inr ⟨xs, .inl q1, fun x hx => ?_⟩
              have := denL_nk_at xs ks q6 q7 x hx
              exact ⟨nk_same k1.fh this.1, this.2⟩
          · obtain ⟨a', vs, ea, _, hg, hdv⟩ := tok_get k1 hT (g2.trans g3) k3 ((d2.up (k2.atG b')).up g3.g) hky
            cases ea
            refine ⟨_, hg, ?_⟩
            split at e
            · rename_i hn
              rw [hn]
              cases e
              exact q W3 _ k3 (g1.trans (g2.trans g3)) d3
            · rename_i n hn
              split at e
              · rename_i dd hdd
                cases e
                rw [hn]
                have hvals : ∃ v, vs[n]? = some v ∧ Den K W1.F v d := by
                  cases hT with
                  | @dK _ kvs _ _ bs q1 q2 q3 q4 q5 q6 =>
                    obtain ⟨v, bs', r1, r2⟩ := q6.get hdd
                    rcases hdv with ⟨_, ez, hdv⟩
                    cases ez
                    rcases hdv with ⟨_, kvs', x1, x2⟩ | ⟨hf, _⟩
                    · rw [q1] at x1; cases x1
                      cases r2 with
                      | leaf hd => exact ⟨v, by rw [← x2]; exact r1, hd⟩
                    · cases hf
                  | @dN _ xs vs' _ _ _ q1 q2 q3 q4 q5 q6 q7 q8 q9 =>
                    obtain ⟨v, bs', r1, r2⟩ := q9.get hdd
                    have : dctVals K W1 (.ref a) true vs' := ⟨a, rfl, .inr ⟨rfl, xs, q1, q5, q8⟩⟩
                    rw [dctVals_det hdv this]
                    cases r2 with
                    | leaf hd => exact ⟨v, r1, hd⟩
                obtain ⟨v, hv1, hv2⟩ := hvals
                simp only [hv1]
                exact q W3 v k3 (g1.trans (g2.trans g3)) (hv2.up (g2.trans g3).f)
              · cases e
        · cases e
      · cases e
    · cases e
  · cases e
end
end VL
end

section
/-! VW8: calls with keywords and with defaults that lack; constants of the top that are tuples. -/
namespace VL
open PySem PySem.Spec PyProof.Rows L2
/-- a def called with n values and the keywords ks -/
structure CalN (P : Program) (w : World) (K : PySem.W.Frag) (mg : Str → Option Value) (base : Heap) (CX : CXT) (k : Nat) (x : Str) (n : Nat) (ks : List Str) (gV : List V → List V → List V) (sp : Sp) : Prop where
  ex : ∃ (f : Addr) (fd : FuncData) (ps : List Str) (g : List Value → List Value → List Value), FnOk P w K mg base CX k f fd ps sp ∧ mg x = some (.ref f) ∧ PySem.W.keepIn K (.ref f) = true ∧ KBn K fd ps n ks g gV
/-- n values, then what the keywords or the defaults give -/
def tAppN (n m : Nat) (gV : List V → List V → List V) (t tk : TA) : TA := fun σ H Q => t σ H fun vs H1 => tk σ H1 fun zs H2 => vs.length = n ∧ zs.length = m ∧ Q (gV vs zs) H2
section
variable {X : Cx} {CX : CXT} {k n j : Nat} {f : Addr} {fd : FuncData} {ps ks : List Str} {sp : Sp} {x : Str} {p pos : Pos} {e : Expr} {es : List Expr} {kws : List Keyword} {t tk : TA} {gV : List V → List V → List V}
theorem pe_cn {E : XK} (c : CalN X.prog X.w X.K X.mg X.base CX k x n ks gV sp) (hr : Room j X.A) (hkj : k ≤ j) (hx : Passes CX X E) (hg : Gl X x)
    (ha : PA X (e :: es) t) (hkw : PK X kws tk) (hall : (backToKw pos (keywordEach kws X.env)).all (·.1.isSome) = true := by rfl) (hks : (backToKw pos (keywordEach kws X.env)).filterMap (·.1) = ks := by rfl)
    (hdb : (x == ("__debug__" : Str)) = false := by decide) (he : starEach (e :: es) X.env = (false, eval e X.env) :: starEach es X.env := by rfl)
    (hpl : ((backTo pos (starEach (e :: es) X.env)).any (·.1) || (backToKw pos (keywordEach kws X.env)).any (·.1.isNone)) = false := by rfl) :
    PE X (.Call (.Name x p) (e :: es) kws pos) (tCall sp [] E (tAppN n ks.length gV t tk)) := by
  obtain ⟨f, fd, ps, g, F, hm, kp, b⟩ := c.ex
  have h := pe_callN (p := p) F (hr.mono hkj) hg hm kp b hx ha hkw hall hks hdb he hpl
  refine ⟨fun pins s σ H Q I q => h.run pins s σ H Q I ?_⟩
  have q' : t σ H fun vs H1 => tk σ H1 fun zs H2 => vs.length = n ∧ zs.length = ks.length ∧ sp (gV vs zs ++ []) H2 Q E := q
  simp only [List.append_nil] at q'
  exact q'
theorem run_fnNS {pins : List (Addr × Obj)} {σ : L2.St} {H : Hp} {s : Shared} {Q : VK} {us ws : List Value} {vs zs : List V} {E : L2.St → XK} {g : List Value → List Value → List Value} (F : FnOk X.prog X.w X.K X.mg X.base CX k f fd ps sp) (hr : Room k X.A) (hb : KBn X.K fd ps n ks g gV) (hx : PassesAt CX X σ (E σ))
    (I : Inv X pins σ H s) (r : Vals vs us) (rz : Vals zs ws) (l1 : vs.length = n) (l2 : zs.length = ks.length) (h : sp (gV vs zs) H Q (E σ)) : wpAny (model X.prog X.w) X.A (call (.ref f) us (ks.zip ws)) (EP X pins σ Q) X.xe s := by
  have r2 := hb.rel r rz
  refine wpAny_call (codeAny_mono (F.run X.A X.stack s H ⟨us, ks.zip ws⟩ (g us ws) (gV vs zs) Q (E σ) hr I.env0 (hb.to s us ws I.kIn (r.length.symm.trans l1) (rz.length.symm.trans l2)) r2 h) fun r s' hq => ?_)
  cases r with
  | error e => exact hx pins H s e s' I hq
  | ok fl =>
    cases fl with
    | ret u => exact I.after hq
    | next => exact False.elim hq
    | brk => exact False.elim hq
    | cont => exact False.elim hq
theorem pe_cns {E : L2.St → XK} (c : CalN X.prog X.w X.K X.mg X.base CX k x n ks gV sp) (hr : Room j X.A) (hkj : k ≤ j) (hx : ∀ σ, PassesAt CX X σ (E σ)) (hg : Gl X x)
    (ha : PA X (e :: es) t) (hkw : PK X kws tk) (hall : (backToKw pos (keywordEach kws X.env)).all (·.1.isSome) = true := by rfl) (hks : (backToKw pos (keywordEach kws X.env)).filterMap (·.1) = ks := by rfl)
    (hdb : (x == ("__debug__" : Str)) = false := by decide) (he : starEach (e :: es) X.env = (false, eval e X.env) :: starEach es X.env := by rfl)
    (hpl : ((backTo pos (starEach (e :: es) X.env)).any (·.1) || (backToKw pos (keywordEach kws X.env)).any (·.1.isNone)) = false := by rfl) :
    PE X (.Call (.Name x p) (e :: es) kws pos) (tCallS sp E (tAppN n ks.length gV t tk)) := by
  obtain ⟨f, fd, ps, g, F, hm, kp, b⟩ := c.ex
  refine ⟨fun pins s σ H Q I h => ?_⟩
  refine wpAny_Call_Name_kw (ld_glob I hg hm ?_ hdb)
  refine PySem.W.callWith_KW (h₀ := X.base) I.ok.mod.kin kp hall (thn (ha.run pos pins s σ H _ I h) fun us s1 ⟨vs, H1, I1, r, q⟩ => ?_) hpl he
  refine thn (hkw.run pos pins s1 σ H1 _ I1 q) fun ws s2 ⟨zs, H2, I2, rz, l1, l2, q2⟩ => ⟨I2.kIn, ?_⟩
  rw [hks]
  exact run_fnNS F (hr.mono hkj) b (hx σ) I2 r rz l1 l2 q2
end
section
variable {K : KW} {E : XK} {W0 : Wd} {b : Bool}
/-- the defaults fill up -/
def gLack (n : Nat) (dv : List D) (gs : GA) : GA := fun c => match gs c with
  | some ds => if ds.length = n then some (ds ++ dv) else none
  | none => none
theorem den_scals {H : Hp} : ∀ {dv : List D}, dv.all D.scal = true → DenL K H (dv.map D.toV) dv
  | [], _ => .nil
  | d :: ds, h => by
    rw [List.all_cons, Bool.and_eq_true] at h
    exact .cons (scal_den h.1) (den_scals h.2)
theorem va_lack {n : Nat} {dv : List D} {ts : TA} {gs : GA} (hd : dv.all D.scal = true) (h : VArg K W0 b ts gs) : VArg K W0 b (tAppN n 0 (fun vs _ => vs ++ dv.map D.toV) ts tNil) (gLack n dv gs) := by
  intro W σ c ds Q k u s e q
  unfold gLack at e
  split at e
  · rename_i es hes
    split at e
    · rename_i hn
      cases e
      exact h W σ c es _ k u s hes fun W1 vs k1 g1 d1 => ⟨by rw [d1.length]; exact hn, rfl, q W1 _ k1 g1 (d1.append (den_scals hd))⟩
    · cases e
  · cases e
/-- .. the keywords -/
def gKw (n m : Nat) (gs gk : GA) : GA := fun c => match gs c with
  | some ds => match gk c with
    | some es => if ds.length = n ∧ es.length = m then some (ds ++ es) else none
    | none => none
  | none => none
theorem va_kw {n m : Nat} {ts tk : TA} {gs gk : GA} (h : VArg K W0 b ts gs) (hk : VArg K W0 b tk gk) : VArg K W0 b (tAppN n m (fun vs zs => vs ++ zs) ts tk) (gKw n m gs gk) := by
  intro W σ c ds Q k u s e q
  unfold gKw at e
  split at e
  · rename_i es hes
    split at e
    · rename_i fs hfs
      split at e
      · rename_i hn
        cases e
        exact h W σ c es _ k u s hes fun W1 vs k1 g1 d1 => hk W1 σ c fs _ k1 (u.gr g1) (s.gr g1) hfs fun W2 zs k2 g2 d2 => ⟨by rw [d1.length]; exact hn.1, by rw [d2.length]; exact hn.2, q W2 _ k2 (g1.trans g2) ((d1.up (g2.at b)).append d2)⟩
      · cases e
    · cases e
  · cases e
/-- a constant of the top -/
theorem vt_gc {v : V} {d : D} (hd : ∀ H, Den K H v d) : VT K W0 b (tC v) (gC d) := by
  intro W σ c d' Q k u s e q
  cases e
  exact q W v k (Gr.refl W) (hd _)
theorem den_gtup {H : Hp} {a : Addr} {od : Option Addr} {its : Array Value} {n : Nat} {sl : Array (Option Value)} {vs : List V} {ds : List D} (h : K.k.lookup a = some ⟨.type "tuple", od, .seq its n, sl⟩) (hz : its.size ≤ sizeLine) (hv : Vals vs its.toList) (hd : DenL K H vs ds) : Den K H (.ref a) (.tup ds) :=
  .tup (.inr ⟨_, its, n, h, rfl, rfl, hz, hv⟩) hd
end
end VL
namespace VL
open PySem PySem.Spec PyProof.Rows L2
section
variable {K : KW} {E : XK} {W0 : Wd} {b : Bool}
/-- one of two ways to see a value -/
def gAlt (g1 g2 : GE) : GE := fun c => match g1 c with
  | some d => some d
  | none => g2 c
theorem vt_alt {te : TE} {g1 g2 : GE} (h1 : VT K W0 b te g1) (h2 : VT K W0 b te g2) : VT K W0 b te (gAlt g1 g2) := by
  intro W σ c d Q k u s e q
  unfold gAlt at e
  split at e
  · rename_i d' h
    cases e
    exact h1 W σ c _ Q k u s h q
  · exact h2 W σ c d Q k u s e q
theorem ps_lor {X : Cx} {st : Stmt} {t : TS} (h : PS X st t) : PS X st (tOrS (tLock t) t) := ps_or (ps_lock h) h
end
end VL
namespace VL
open PySem PySem.Spec PyProof.Rows L2
theorem pi_seqUK {K : PySem.W.Frag} {X : Cx} {tg l : Expr} {tl : TE} (hK : X.K = K) (hl : PE X l tl) : PI X tg l (iSeqU K tl) := by
  subst hK
  exact pi_seqU hl
theorem pi_enumUK {K : PySem.W.Frag} {X : Cx} {e : Expr} {ta : TA} {p pos tpos : Pos} {elts : List Expr} {kk : Nat} (hK : X.K = K) (h : PI X (.Tuple elts kk tpos) (.Call (.Name "enumerate" p) [e] [] pos) (iEnumU X.K ta)) : PI X (.Tuple elts kk tpos) (.Call (.Name "enumerate" p) [e] [] pos) (iEnumU K ta) := by
  subst hK
  exact h
end VL
namespace VL
open PySem PySem.Spec PyProof.Rows L2
/-- the scope of a block within a block of a def's scope sc0 -/
def relC (scope sc0 : Scope) : Scope :=
  { scope with names := scope.names.map fun (n, k) => if (k == NameKind.free && sc0.kind == .function && sc0.names.lookup n == some .cell) then (n, NameKind.cell) else (n, k) }
theorem blk_in {X : Cx} {N : List Str} {sc0 outer scope : Scope} {own : List (Str × Nat)} {s : Shared} {H : Hp} {C : Addr} {cl : List (Str × Addr)} {fp : List Addr} (hN : X.N = N) (e : X.env.scope = sc0) (h : blkC N (relC outer sc0) scope own = true) :
    BlkOk (X.blk s H outer (compEnvC outer cl C X.env) fp).N (X.blk s H outer (compEnvC outer cl C X.env) fp).env.scope scope own := by
  subst hN e
  exact blkOk_by h
end VL
namespace VL
open PySem PySem.Spec PyProof.Rows L2
def absVs : List Value → Option (List V)
  | [] => some []
  | u :: us => match absV u with
    | some v => (absVs us).map (v :: ·)
    | none => none
theorem absV_to {u : Value} {v : V} (h : absV u = some v) : RelV v u := by
  cases u <;> first | (cases h; rfl) | (cases h; exact ⟨_, rfl⟩) | cases h
theorem vals_to : ∀ {us : List Value} {vs : List V}, absVs us = some vs → Vals vs us
  | [], _, h => by cases h; exact .nil
  | u :: us, vs, h => by
    cases e : absV u with
    | none => simp [absVs, e] at h
    | some v =>
      simp only [absVs, e, Option.map_eq_some_iff] at h
      obtain ⟨ws, h1, rfl⟩ := h
      exact .cons (absV_to e) (vals_to h1)
end VL
end

section
/-! VPD: dicts of one's own in the plain part: keys of a plain type, a function to the values. -/
namespace VL
open PySem PySem.Spec PyProof.Rows L2
/-- a plain type told as keys -/
structure KEm {α : Type} [DecidableEq α] (b : Bool) (e : α → D) (n : α → NestedKey) : Prop where
  kk : ∀ a, (e a).kk b = some (n a)
  inj : ∀ a a', n a = n a' → a = a'
section
variable {α : Type} [DecidableEq α] {b : Bool} {e : α → D} {n : α → NestedKey}
theorem kix_map (h : KEm b e n) (a : α) : ∀ xs : List α, kIx b (xs.map e) (n a) = xs.findIdx? (fun x => decide (x = a))
  | [] => rfl
  | x :: xs => by
    have ih := kix_map h a xs
    unfold kIx at ih ⊢
    rw [List.map_cons, List.findIdx?_cons, List.findIdx?_cons, h.kk, ih]
    by_cases hx : x = a
    · rw [decide_eq_true (by rw [hx]), decide_eq_true hx]
    · rw [decide_eq_false (fun z => hx (h.inj _ _ (Option.some.inj z))), decide_eq_false hx]
theorem has_map (h : KEm b e n) (a : α) (xs : List α) : dHas b (xs.map e) (n a) = decide (a ∈ xs) := by
  unfold dHas
  rw [List.any_map]
  rw [Bool.eq_iff_iff, List.any_eq_true]
  simp only [Function.comp, decide_eq_true_eq]
  constructor
  · rintro ⟨x, hx, q⟩
    rw [h.kk] at q
    rw [← h.inj _ _ (Option.some.inj q)]; exact hx
  · exact fun hx => ⟨a, hx, h.kk a⟩
/-- the function changed at a -/
def fUp (w : α → D) (a : α) (d : D) : α → D := fun x => if x = a then d else w x
theorem fUp_same {w : α → D} {a : α} {d : D} : fUp w a d a = d := if_pos rfl
theorem fUp_ne {w : α → D} {a x : α} {d : D} (h : x ≠ a) : fUp w a d x = w x := if_neg h
/-- a dict of one's own -/
abbrev dT (b : Bool) (e : α → D) (xs : List α) (w : α → D) : T := .dct b (xs.map e) (xs.map fun x => .leaf (w x))
abbrev dD (b : Bool) (e : α → D) (xs : List α) (w : α → D) : D := .dct b (xs.map e) (xs.map w)
theorem plain_leafs {β : Type} (w : β → D) : ∀ xs : List β, T.plainL (xs.map fun x => T.leaf (w x)) = true
  | [] => rfl
  | x :: xs => by
    show (true && T.plainL (xs.map fun x => T.leaf (w x))) = true
    rw [plain_leafs w xs]; rfl
theorem view_leafs {β : Type} (w : β → D) : ∀ xs : List β, T.viewL (xs.map fun x => T.leaf (w x)) = xs.map w
  | [] => rfl
  | x :: xs => by
    show w x :: T.viewL (xs.map fun x => T.leaf (w x)) = _
    rw [view_leafs w xs]; rfl
theorem dT_plain {xs : List α} {w : α → D} : (dT b e xs w).plain = true := plain_leafs w xs
theorem dT_view {xs : List α} {w : α → D} : (dT b e xs w).view = dD b e xs w := congrArg (D.dct b _) (view_leafs w xs)
def kIns (xs : List α) (a : α) : List α := if a ∈ xs then xs else xs ++ [a]
theorem find_at {a : α} : ∀ {xs : List α}, a ∈ xs → ∃ k, xs.findIdx? (fun x => decide (x = a)) = some k ∧ xs[k]? = some a
  | x :: xs, h => by
    rw [List.findIdx?_cons]
    by_cases hx : x = a
    · subst hx
      exact ⟨0, by simp, rfl⟩
    · obtain ⟨k, h1, h2⟩ := find_at (xs := xs) (by rcases List.mem_cons.mp h with q | q; exact absurd q.symm hx; exact q)
      rw [decide_eq_false hx, h1]
      exact ⟨k + 1, rfl, by simpa using h2⟩
theorem find_no {a : α} {xs : List α} (h : a ∉ xs) : xs.findIdx? (fun x => decide (x = a)) = none := by
  rw [List.findIdx?_eq_none_iff]
  intro x hx
  exact decide_eq_false fun z => h (z ▸ hx)
theorem dPut_map (h : KEm b e n) {xs : List α} (hn : xs.Nodup) {w : α → D} {a : α} {d : D} : dPut b (xs.map e) (xs.map fun x => T.leaf (w x)) (e a) (n a) (.leaf d) = dT b e (kIns xs a) (fUp w a d) := by
  unfold dPut kIns
  rw [kix_map h]
  by_cases ha : a ∈ xs
  · obtain ⟨k, h1, h2⟩ := find_at ha
    rw [h1, if_pos ha]
    show T.dct b (xs.map e) ((xs.map fun x => T.leaf (w x)).set k (.leaf d)) = T.dct b (xs.map e) (xs.map fun x => T.leaf (fUp w a d x))
    congr 1
    apply List.ext_getElem?
    intro j
    rw [List.getElem?_set, List.getElem?_map, List.getElem?_map]
    have hk : k < xs.length := (List.getElem?_eq_some_iff.mp h2).1
    by_cases hj : k = j
    · subst hj
      rw [if_pos rfl, if_pos (by simpa using hk), h2]
      show some (T.leaf d) = some (T.leaf (fUp w a d a))
      rw [fUp_same]
    · rw [if_neg hj]
      cases hx : xs[j]? with
      | none => rfl
      | some x =>
        show some (T.leaf (w x)) = some (T.leaf (fUp w a d x))
        rw [fUp_ne]
        intro z
        subst z
        exact hj ((List.getElem?_inj hk hn).mp (by rw [h2, hx]))
  · rw [find_no ha, if_neg ha]
    show T.dct b (xs.map e ++ [e a]) ((xs.map fun x => T.leaf (w x)) ++ [.leaf d]) = T.dct b ((xs ++ [a]).map e) ((xs ++ [a]).map fun x => T.leaf (fUp w a d x))
    rw [List.map_append, List.map_append]
    congr 1
    congr 1
    · apply List.map_congr_left
      intro x hx
      rw [fUp_ne (by intro z; rw [z] at hx; exact ha hx)]
    · show [T.leaf d] = [T.leaf (fUp w a d a)]
      rw [fUp_same]
theorem kIns_nodup {xs : List α} {a : α} (h : xs.Nodup) : (kIns xs a).Nodup := by
  unfold kIns
  split
  · exact h
  · rename_i ha
    rw [List.nodup_append]
    exact ⟨h, by simp, fun x hx y hy z => ha (by simp at hy; rw [← hy, ← z]; exact hx)⟩
theorem kIns_mem {xs : List α} {a x : α} : x ∈ kIns xs a ↔ x ∈ xs ∨ x = a := by
  unfold kIns
  split
  · rename_i ha
    constructor
    · exact .inl
    · rintro (h | rfl)
      · exact h
      · exact ha
  · simp
/-! rules -/
variable {c : Env} {P : Out → Prop} {i : Nat} {g : GS} {gk gx : GE} {xs : List α} {w : α → D} {a : α} {o : Option Nat}
theorem atP_var {t : T} (hc : c[i]? = some (some (.tre o t))) : atP (gpVar i) c = some (i, [], t, t) := by
  have h1 : gpVar i c = some (i, []) := by unfold gpVar; rw [hc]
  unfold atP
  simp only [h1, hc]
  rfl
theorem e_view (hc : c[i]? = some (some (.tre o (dT b e xs w)))) : gView (gpVar i) c = some (dD b e xs w) := by
  unfold gView
  rw [atP_var hc]
  show (if (dT b e xs w).plain = true then some (dT b e xs w).view else none) = _
  rw [if_pos dT_plain, dT_view]
theorem e_viewA {g2 : GE} (hc : c[i]? = some (some (.tre o (dT b e xs w)))) : gAlt (gView (gpVar i)) g2 c = some (dD b e xs w) := by
  unfold gAlt; rw [e_view hc]
theorem sub_one {n : Nat} {ts : List T} {ks : List D} {t : T} (h : ts[n]? = some t) : T.sub [n] (.dct b ks ts) = some t := by
  show (match (T.dct b ks ts).kids[n]? with | some t => T.sub [] t | none => none) = _
  show (match ts[n]? with | some t => T.sub [] t | none => none) = _
  rw [h]; rfl
theorem e_get (h : KEm b e n) (hc : c[i]? = some (some (.tre o (dT b e xs w)))) (hk : gk c = some (e a)) (ha : a ∈ xs) : gLeafP (gpIx (gpVar i) gk) c = some (w a) := by
  obtain ⟨k, h1, h2⟩ := find_at ha
  have hlt : k < (xs.map fun x => T.leaf (w x)).length := by simpa using (List.getElem?_eq_some_iff.mp h2).1
  have hp : gpIx (gpVar i) gk c = some (i, [k]) := by
    unfold gpIx
    simp only [atP_var hc, hk, h.kk, kix_map h, h1]
    exact if_pos hlt
  have h3 : T.sub [k] (dT b e xs w) = some (.leaf (w a)) := sub_one (by rw [List.getElem?_map, h2]; rfl)
  unfold gLeafP atP
  simp only [hp, hc, h3]
theorem e_getA {g2 : GE} (h : KEm b e n) (hc : c[i]? = some (some (.tre o (dT b e xs w)))) (hk : gk c = some (e a)) (ha : a ∈ xs) : gAlt (gLeafP (gpIx (gpVar i) gk)) g2 c = some (w a) := by
  unfold gAlt; rw [e_get h hc hk ha]
/-- the place is no structure any more -/
theorem e_altF {g2 : GE} {d : D} {r : Option D} (hc : c[i]? = some (some (.fz d))) (h : g2 c = r) : gAlt (gLeafP (gpIx (gpVar i) gk)) g2 c = r := by
  have : gLeafP (gpIx (gpVar i) gk) c = none := by
    have h1 : gpVar i c = none := by unfold gpVar; rw [hc]
    have h2 : atP (gpVar i) c = none := by unfold atP; rw [h1]
    have h3 : gpIx (gpVar i) gk c = none := by unfold gpIx; rw [h2]
    unfold gLeafP atP; rw [h3]
  unfold gAlt; rw [this]; exact h
theorem e_get2 (h : KEm b e n) {z : D} (hc : c[i]? = some (some (.tre o (dT b e xs w)))) (hk : gk c = some (e a)) (hz : gx c = some z) : gGet2P (gpVar i) gk gx c = some (if a ∈ xs then w a else z) := by
  unfold gGet2P
  simp only [atP_var hc, hk, h.kk, hz, kix_map h]
  by_cases ha : a ∈ xs
  · obtain ⟨k, h1, h2⟩ := find_at ha
    have h3 : (xs.map fun x => T.leaf (w x))[k]? = some (.leaf (w a)) := by rw [List.getElem?_map, h2]; rfl
    simp only [h1, if_pos ha, h3]
  · simp only [find_no ha, if_neg ha]
theorem e_get2A (h : KEm b e n) {z : D} {g2 : GE} (hc : c[i]? = some (some (.tre o (dT b e xs w)))) (hk : gk c = some (e a)) (hz : gx c = some z) : gAlt (gGet2P (gpVar i) gk gx) g2 c = some (if a ∈ xs then w a else z) := by
  unfold gAlt; rw [e_get2 h hc hk hz]
theorem at_get (h : KEm b e n) (ha : a ∈ xs) : dAt b (xs.map e) (xs.map w) (n a) = some (w a) := by
  induction xs with
  | nil => cases ha
  | cons x xs ih =>
    rw [List.map_cons, List.map_cons]
    unfold dAt
    rw [h.kk]
    by_cases hx : x = a
    · rw [if_pos (by rw [hx]), hx]
    · rw [if_neg fun z => hx (h.inj _ _ (Option.some.inj z))]
      exact ih (by rcases List.mem_cons.mp ha with q | q; exact absurd q.symm hx; exact q)
theorem dIx_get (h : KEm b e n) (ha : a ∈ xs) : dIx (dD b e xs w) (e a) = some (w a) := by
  show (match (e a).kk b with | some k => dAt b (xs.map e) (xs.map w) k | none => none) = _
  rw [h.kk]
  exact at_get h ha
theorem dIn_get (h : KEm b e n) : dIn (e a) (dD b e xs w) = some (.bl (decide (a ∈ xs))) := by
  have : dInB (e a) (dD b e xs w) = some (decide (a ∈ xs)) := by
    have e1 : dInB (e a) (dD b e xs w) = (match (e a).kk b with | some k => some (dHas b (xs.map e) k) | none => none) := by
      cases e a <;> rfl
    rw [e1, h.kk]
    show some (dHas b (xs.map e) (n a)) = _
    rw [has_map h]
  unfold dIn
  rw [this]; rfl
theorem dNotIn_get (h : KEm b e n) : dNotIn (e a) (dD b e xs w) = some (.bl (!decide (a ∈ xs))) := by
  have h1 := dIn_get (a := a) (xs := xs) (w := w) h
  unfold dIn at h1
  unfold dNotIn
  cases h2 : dInB (e a) (dD b e xs w) with
  | none => rw [h2] at h1; cases h1
  | some q => rw [h2] at h1; cases h1; rfl
theorem wp_put {gt : Env → Option T} {d : D} (h : KEm b e n) (hn : xs.Nodup) (hc : c[i]? = some (some (.tre o (dT b e xs w)))) (hk : gk c = some (e a)) (ht : gt c = some (.leaf d)) (hl : xs.length < sizeLine) (hP : P (.nx (c.set i (some (.tre o (dT b e (kIns xs a) (fUp w a d))))))) : Wp (gPSet (gpVar i) gk gt) c P := by
  refine ⟨_, ?_, hP⟩
  unfold gPSet
  have hl' : (xs.map e).length < sizeLine := by simpa using hl
  simp only [atP_var hc, ht, hk, h.kk, if_pos hl', dPut_map h hn]
  rw [setT_at hc]
  rfl
theorem wp_asgT {gt : Env → Option T} {t : T} (h : gt c = some t) (hP : P (.nx (c.set i (some (.tre none t))))) : Wp (gAsgT i gt) c P := ⟨_, by unfold gAsgT; rw [h], hP⟩
theorem wp_frzT {t : T} (hc : c[i]? = some (some (.tre none t))) (hp : t.plain = true) (h : Wp g (c.set i (some (.fz t.view))) P) : Wp (gFrzT i g) c P := by
  obtain ⟨r, h1, h2⟩ := h
  refine ⟨r, ?_, h2⟩
  unfold gFrzT frzT
  rw [hc]
  show g (if t.plain = true then c.set i (some (.fz t.view)) else c) = _
  rw [if_pos hp]; exact h1
theorem wp_frzO {ds : List D} (hc : c[i]? = some (some (.own ds))) (h : Wp g (c.set i (some (.fz (.lst ds)))) P) : Wp (gFrzT i g) c P := by
  obtain ⟨r, h1, h2⟩ := h
  refine ⟨r, ?_, h2⟩
  unfold gFrzT frzT
  rw [hc]; exact h1
theorem wp_mvT {j : Nat} {t : T} (hc : c[j]? = some (some (.tre none t))) (hP : P (.nx ((c.set j none).set i (some (.tre none t))))) : Wp (gMv i j) c P := ⟨_, by unfold gMv; rw [hc], hP⟩
theorem wp_mvO {j : Nat} {ds : List D} (hc : c[j]? = some (some (.own ds))) (hP : P (.nx ((c.set j none).set i (some (.own ds))))) : Wp (gMv i j) c P := ⟨_, by unfold gMv; rw [hc], hP⟩
theorem wp_forK {f : D → Env → Option Env} {gb : GS} {ks ds : List D} {bb : Bool} (hc : c[i]? = some (some (.fz (.dct bb ks ds)))) (h : WpL f gb ks c fun r => (∀ C ns es, r ≠ .ex C ns es) ∧ P r) : Wp (gForK i f gb) c P := by
  obtain ⟨r, h1, h2, h3⟩ := h
  refine ⟨r, ?_, h3⟩
  unfold gForK
  rw [hc]
  show (match gLoop f gb ks c with | some (.ex _ _ _) => none | r => r) = _
  rw [h1]
  cases r <;> first | rfl | exact absurd rfl (h2 _ _ _)
/-- a new dict over keys that differ -/
theorem e_dc (h : KEm b e n) {gi : GA} {f : D → Env → Option Env} {gt : Env → Option T} {vs : List Nat} {xs : List α} (hi : gi c = some (xs.map e)) (hn : xs.Nodup) (hl : xs.length ≤ sizeLine) {v : α → D}
    (hx : ∀ x ∈ xs, ∃ c1, f (e x) (wipeC c vs) = some c1 ∧ gk c1 = some (e x) ∧ gt c1 = some (.leaf (v x))) : tgDc b gi f gYes gk gt vs c = some (dT b e xs v) := by
  have key : ∀ (ys zs : List α), (ys ++ zs).Nodup → (ys ++ zs).length ≤ sizeLine → (∀ x ∈ zs, ∃ c1, f (e x) (wipeC c vs) = some c1 ∧ gk c1 = some (e x) ∧ gt c1 = some (.leaf (v x))) →
      gDcL b f gYes gk gt (wipeC c vs) (zs.map e) (ys.map e) (ys.map fun x => T.leaf (v x)) = some (dT b e (ys ++ zs) v) := by
    intro ys zs
    induction zs generalizing ys with
    | nil => intro _ _ _; rw [List.append_nil]; rfl
    | cons z zs ih =>
      intro hnd hlen hz
      obtain ⟨c1, h1, h2, h3⟩ := hz z (List.mem_cons_self ..)
      have hni : z ∉ ys := by
        rw [List.nodup_append] at hnd
        exact fun q => hnd.2.2 z q z (List.mem_cons_self ..) rfl
      have hys : ys.Nodup := (List.nodup_append.mp hnd).1
      rw [List.map_cons]
      unfold gDcL
      have hlt : (ys.map e).length < sizeLine := by simp at hlen ⊢; omega
      simp only [h1, gYes, h2, h3, h.kk, if_pos hlt, dPut_map h hys]
      have e1 : kIns ys z = ys ++ [z] := if_neg hni
      have e2 : ((ys ++ [z]).map fun x => T.leaf (fUp v z (v z) x)) = (ys ++ [z]).map fun x => T.leaf (v x) := by
        apply List.map_congr_left
        intro x _
        by_cases q : x = z
        · subst q; rw [fUp_same]
        · rw [fUp_ne q]
      rw [e1]
      show gDcL b f gYes gk gt (wipeC c vs) (zs.map e) ((ys ++ [z]).map e) ((ys ++ [z]).map fun x => T.leaf (fUp v z (v z) x)) = _
      rw [e2]
      have := ih (ys ++ [z]) (by simpa using hnd) (by simpa using hlen) (fun x hx => hz x (List.mem_cons_of_mem _ hx))
      simpa using this
  unfold tgDc
  rw [hi]
  exact key [] xs (by simpa using hn) (by simpa using hl) hx
theorem e_d1 (h : KEm b e n) {gt : Env → Option T} {d : D} (hk : gk c = some (e a)) (ht : gt c = some (.leaf d)) : tgD1 b gk gt c = some (dT b e [a] fun _ => d) := by
  unfold tgD1
  rw [hk, ht]
  show (match (e a).kk b with | some _ => some (T.dct b [e a] [.leaf d]) | none => none) = _
  rw [h.kk]; rfl
theorem e_leaf {ge : GE} {d : D} (h : ge c = some d) : tgLeaf ge c = some (.leaf d) := by unfold tgLeaf; rw [h]; rfl
end
theorem wp_wh {p : GB} {gb : GS} {P : Out → Prop} (I : Env → Nat → Prop) (hs : ∀ c m, I c m → ∃ b, p c = some b ∧ (b = true → Wp gb c (Turn (fun c' => ∃ m', m' < m ∧ I c' m') P)) ∧ (b = false → P (.nx c))) :
    ∀ (fuel m : Nat) (c : Env), m < fuel → I c m → ∃ o, gWl p gb fuel c = some o ∧ P o
  | 0, m, c, h, _ => absurd h (Nat.not_lt_zero m)
  | fuel + 1, m, c, h, hI => by
    obtain ⟨b, h1, h2, h3⟩ := hs c m hI
    unfold gWl
    rw [h1]
    cases b with
    | false => exact ⟨_, rfl, h3 rfl⟩
    | true =>
      obtain ⟨o, q1, q2⟩ := h2 rfl
      have again := fun m' c' (hm : m' < m) (hI' : I c' m') => wp_wh I hs fuel m' c' (by omega) hI'
      cases o with
      | nx c' => obtain ⟨m', hm, hI'⟩ := q2; simp only [q1]; exact again m' c' hm hI'
      | ct c' => obtain ⟨m', hm, hI'⟩ := q2; simp only [q1]; exact again m' c' hm hI'
      | bk c' => simp only [q1]; exact ⟨_, rfl, q2⟩
      | ret d => simp only [q1]; exact ⟨_, rfl, q2⟩
      | ex C ns ds => simp only [q1]; exact ⟨_, rfl, q2⟩
      | own t => simp only [q1]; exact ⟨_, rfl, q2⟩
theorem wp_while {fuel : Env → Nat} {p : GB} {gb : GS} {c : Env} {P : Out → Prop} (I : Env → Nat → Prop) {m : Nat} (hf : m < fuel c) (h0 : I c m) (hs : ∀ c m, I c m → ∃ b, p c = some b ∧ (b = true → Wp gb c (Turn (fun c' => ∃ m', m' < m ∧ I c' m') P)) ∧ (b = false → P (.nx c))) :
    Wp (gWhile fuel p gb) c P := wp_wh I hs (fuel c) m c hf h0
/-! forms as keys -/
def syK : Sy → NestedKey
  | .v i => .num i
  | .l c => .text ⟨#[c.val]⟩
theorem syK_inj {s t : Sy} (h : syK s = syK t) : s = t := by
  cases s <;> cases t <;> simp [syK] at h <;> first | (rw [h]) | (exact congrArg Sy.l (Fin.ext h)) | exact h.elim
theorem nk_sy (s : Sy) : s.D.nk = some (syK s) := by cases s <;> rfl
theorem nkL_sy : ∀ f : Form, D.nkL (f.map Sy.D) = some (f.map syK)
  | [] => rfl
  | s :: f => by
    rw [List.map_cons]
    unfold D.nkL
    rw [nk_sy, nkL_sy f]; rfl
theorem dep_sy : ∀ f : Form, (NestedKey.tup (f.map syK)).depth ≤ 8 := by
  have h0 : ∀ f : Form, NestedKey.depthAll (f.map syK) = 0 := by
    intro f
    induction f with
    | nil => rfl
    | cons s f ih =>
      have h1 : NestedKey.depth (syK s) = 0 := by cases s <;> rfl
      show max (NestedKey.depth (syK s)) (NestedKey.depthAll (f.map syK)) = 0
      rw [h1, ih]; rfl
  intro f
  show NestedKey.depthAll (f.map syK) + 1 ≤ 8
  rw [h0]; omega
def fK (f : Form) : NestedKey := .tup (f.map syK)
theorem kem_form : KEm true fD fK where
  kk := fun f => by
    show (match (D.nkL (f.map Sy.D)).map NestedKey.tup with | some k => if k.depth ≤ 8 then some k else none | none => none) = _
    rw [nkL_sy]
    exact if_pos (dep_sy f)
  inj := fun f g h => by
    have h' : f.map syK = g.map syK := NestedKey.tup.inj h
    exact List.map_inj_right (fun a b => syK_inj) |>.mp h'
end VL
end

section
/-! VW9: calls of built-ins whose arguments may raise. -/
namespace VL
open PySem PySem.Spec PyProof.Rows L2
section
variable {K : KW} {W0 : Wd} {Ex : L2.St → XK} {b : Bool}
def gXCall (f : List D → Option D) (gs : GRs) : GR := fun c => match gs c with
  | some (.inl ds) => match f ds with
    | some z => some (.val z)
    | none => none
  | some (.inr (C, ns, ds)) => some (.exn C ns ds)
  | none => none
theorem vtx_cb {r : List V → Hp → VK → Prop} {f : List D → Option D} {ts : TA} {gs : GRs} (hr : RC K r f) (hs : VAX K W0 Ex b ts gs) : VTX K W0 Ex b (tCB r ts) (gXCall f gs) := by
  intro W σ c Q k u s q
  refine hs W σ c _ k u s ?_
  unfold gXCall at q
  cases e : gs c with
  | none => rw [e] at q; exact q.elim
  | some o =>
    rw [e] at q
    cases o with
    | inr z => obtain ⟨C, ns, ds⟩ := z; exact q
    | inl ds =>
      simp only at q
      cases e2 : f ds with
      | none => rw [e2] at q; exact q.elim
      | some z =>
        simp only [e2] at q
        exact fun W1 vs k1 g1 d1 => hr b W1 vs ds z Q k1 d1 e2 fun W2 v k2 g2 hd => q W2 v k2 (g1.trans g2) hd
theorem x_callV {c : Env} {f : List D → Option D} {gs : GRs} {ds : List D} {z : D} (h : gs c = some (.inl ds)) (hf : f ds = some z) : gXCall f gs c = some (.val z) := by
  unfold gXCall; rw [h]; simp only [hf]
theorem x_callX {c : Env} {f : List D → Option D} {gs : GRs} {C : Addr} {ns : List Str} {ds : List D} (h : gs c = some (.inr (C, ns, ds))) : gXCall f gs c = some (.exn C ns ds) := by
  unfold gXCall; rw [h]
end
theorem dInB_lst (x : D) (ds : List D) : dInB x (.lst ds) = if x.scal = true ∧ ds.all D.scal = true then some ((ds.map D.toV).any fun v => eqV v x.toV) else dInD x (.lst ds) := by cases x <;> rfl
theorem dInB_tup (x : D) (ds : List D) : dInB x (.tup ds) = if x.scal = true ∧ ds.all D.scal = true then some ((ds.map D.toV).any fun v => eqV v x.toV) else dInD x (.tup ds) := by cases x <;> rfl
section
variable {α : Type} [DecidableEq α] {e : α → D} {n : Nat}
theorem Emb.shaped (h : Emb e n) (hn : n ≤ 64) (x : α) : SeqAt.shaped (h.p x) = true := by
  unfold SeqAt.shaped
  rw [h.ly x, Bool.true_and]
  exact decide_eq_true (Nat.le_trans (h.dp x) hn)
theorem Emb.any (h : Emb e n) (a : α) (xs : List α) : ((xs.map h.p).any fun z => PyData.eqv z (h.p a)) = decide (a ∈ xs) := by
  rw [List.any_map, Bool.eq_iff_iff, List.any_eq_true]
  simp only [Function.comp, h.ev, decide_eq_true_eq]
  exact ⟨fun ⟨x, h1, h2⟩ => h2 ▸ h1, fun h1 => ⟨a, h1, rfl⟩⟩
theorem Emb.inB (h : Emb e n) (hn : n ≤ 63) (a : α) (xs : List α) (hs : (e a).scal = false) : dInB (e a) (.lst (xs.map e)) = some (decide (a ∈ xs)) := by
  rw [dInB_lst, if_neg (by rw [hs]; simp)]
  unfold dInD
  simp only [h.hp, pyL_map h]
  rw [if_pos ⟨h.shaped (by omega) a, h.lst.shaped (by omega) xs⟩, h.any]
theorem Emb.inL (h : Emb e n) (hn : n ≤ 63) (a : α) (xs : List α) (hs : (e a).scal = false) : dIn (e a) (.lst (xs.map e)) = some (.bl (decide (a ∈ xs))) := by
  unfold dIn; rw [h.inB hn a xs hs]; rfl
theorem Emb.notInL (h : Emb e n) (hn : n ≤ 63) (a : α) (xs : List α) (hs : (e a).scal = false) : dNotIn (e a) (.lst (xs.map e)) = some (.bl (!decide (a ∈ xs))) := by
  unfold dNotIn; rw [h.inB hn a xs hs]; rfl
theorem Emb.inTB (h : Emb e n) (hn : n ≤ 63) (a : α) (xs : List α) (hs : (e a).scal = false) : dInB (e a) (.tup (xs.map e)) = some (decide (a ∈ xs)) := by
  rw [dInB_tup, if_neg (by rw [hs]; simp)]
  unfold dInD
  simp only [h.hp, pyL_map h]
  rw [if_pos ⟨h.shaped (by omega) a, h.tup.shaped (by omega) xs⟩, h.any]
theorem Emb.inT (h : Emb e n) (hn : n ≤ 63) (a : α) (xs : List α) (hs : (e a).scal = false) : dIn (e a) (.tup (xs.map e)) = some (.bl (decide (a ∈ xs))) := by
  unfold dIn; rw [h.inTB hn a xs hs]; rfl
end
end VL
end

section
/-! VW10: in by an own __contains__; x.index(y) where the items are data of any depth; text.find(sign), text.index(sign). -/
namespace L2
open PySem PySem.Spec PyProof.Rows
section
variable {prog : Program} {w : World} {A : Around} {E : Value → Shared → Prop} {s : Shared} {K : PySem.W.Frag} {x C f : Addr} {ox : Obj} {od : Option Obj} {b : Value}
theorem contains_K {Q : Bool → Shared → Prop} (X : K.In s.heap) (I : PySem.W.InstAt s.heap x ox C od) (hs : PySem.W.findIn K (.ref C) "__contains__" = some (some (.ref f))) (hf : PySem.W.isFn K (.ref f) = true)
    (h : wpAny (model prog w) A (call (.ref f) [.ref x, b]) (fun v s' => ∃ t, v = .bool t ∧ Q t s') E s) : wpAny (model prog w) A (contains (.ref x) b) Q E s := by
  unfold contains
  refine wpAny_holding ?_
  have e1 : stdlibNamesSay? (.ref x) b = none := rfl
  simp only [e1]
  refine wpAny_bind (wpAny_bind (I.type.here ((PySem.W.looks_findIn X hs).here ?_)))
  have e2 : (some (Value.ref f) == some Value.none) = false := by rfl
  rw [if_neg (by rw [e2]; exact Bool.false_ne_true)]
  refine wpAny_bind ?_
  unfold callSpecialUnlessNone?
  refine wpAny_bind (wpAny_bind (I.type.here ((PySem.W.looks_findIn X hs).here ?_)))
  refine wpAny_holding (wpAny_bind ((PySem.W.bind_fn X _ (beq_iff_eq.mp hf)).here ?_))
  have e3 : (Value.ref f == Value.none) = false := by rfl
  show wpAny _ _ (if (Value.ref f == Value.none) = true then _ else (call (Value.ref f) ([Value.ref x] ++ [b]) >>= fun r => pure (some r))) _ E s
  rw [if_neg (by rw [e3]; exact Bool.false_ne_true)]
  refine wpAny_bind (wpAny_mono h (fun v s' hv => ?_) fun _ _ e => e)
  obtain ⟨t, rfl, q⟩ := hv
  exact wpAny_pure (wpAny_truthy_bool q)
end
section
variable {X : Cx}
/-- x in y, y an instance of the class at C, by its own method -/
def rInO (C : Addr) (sp : Sp) (neg : Bool) : R2 := fun x y H Q => ∃ b dx fs, y = .ref b ∧ H b = some (.ins C dx fs) ∧ sp [.ref b, x] H (fun v H' => ∃ t, v = .bl t ∧ Q (.bl (if neg then !t else t)) H') (fun _ _ _ => False)
theorem contains_own {n : Nat} {C f : Addr} {fd : FuncData} {ps : List Str} {sp : Sp} (F : FnOk X.prog X.w X.K X.mg X.base CX0 n f fd ps sp)
    (hs : PySem.W.findIn X.K (.ref C) "__contains__" = some (some (.ref f))) (hf : PySem.W.isFn X.K (.ref f) = true) (hb : Binds X.K fd ps []) (hr : Room n X.A) {pins : List (Addr × Obj)} {s : Shared} {σ : St} {H : Hp} {x : V} {v : Value} {b dx : Addr} {fs : List (Str × V)} {R : Bool → Hp → Prop} {P : Bool → Shared → Prop}
    (I : Inv X pins σ H s) (rx : RelV x v) (hH : H b = some (.ins C dx fs)) (h : sp [.ref b, x] H (fun v H' => ∃ t, v = .bl t ∧ R t H') (fun _ _ _ => False)) (hP : ∀ t H' s', Inv X pins σ H' s' → R t H' → P t s') : wpAny (model X.prog X.w) X.A (contains (.ref b) v) P X.xe s := by
  obtain ⟨mA, J, _⟩ := ins_get I.hok hH
  obtain ⟨od, J, _⟩ := J.look
  refine contains_K I.kIn J hs hf ?_
  have hl := F.len _ _ _ _ h
  have r2 : Vals [V.ref b, x] [Value.ref b, v] := .cons rfl (.cons rx .nil)
  refine wpAny_call (codeAny_mono (F.run X.A X.stack s H ⟨[.ref b, v], []⟩ [.ref b, v] [.ref b, x] _ _ hr I.env0 (by
    have := hb s [.ref b, v] I.kIn (by simpa using hl)
    simpa using this) r2 h) fun r s' hq => ?_)
  cases r with
  | error e => exact pass0 pins σ H s e s' I hq
  | ok fl =>
    cases fl with
    | ret w =>
      obtain ⟨z, H', I', rz, t, ez, ex⟩ := I.after hq
      subst ez
      cases rz
      exact ⟨t, rfl, hP t H' s' I' ex⟩
    | next => exact False.elim hq
    | brk => exact False.elim hq
    | cont => exact False.elim hq
theorem op_inOwn {n : Nat} {C f : Addr} {fd : FuncData} {ps : List Str} {sp : Sp} (F : FnOk X.prog X.w X.K X.mg X.base CX0 n f fd ps sp)
    (hs : PySem.W.findIn X.K (.ref C) "__contains__" = some (some (.ref f))) (hf : PySem.W.isFn X.K (.ref f) = true) (hb : Binds X.K fd ps []) (hr : Room n X.A) : OpR X (compareOp .In) (rInO C sp false) := by
  intro pins s σ H x y v u Q I rx ry h
  obtain ⟨b, dx, fs, rfl, hH, hsp⟩ := h
  cases ry
  show wpAny _ _ (do return Value.bool (← contains (.ref b) v)) _ _ s
  refine wpAny_bind (contains_own F hs hf hb hr (R := fun t H' => Q (.bl (if false then !t else t)) H') I rx hH hsp fun t H' s' I' q => wpAny_pure ⟨.bl t, H', I', rfl, q⟩)
theorem op_notInOwn {n : Nat} {C f : Addr} {fd : FuncData} {ps : List Str} {sp : Sp} (F : FnOk X.prog X.w X.K X.mg X.base CX0 n f fd ps sp)
    (hs : PySem.W.findIn X.K (.ref C) "__contains__" = some (some (.ref f))) (hf : PySem.W.isFn X.K (.ref f) = true) (hb : Binds X.K fd ps []) (hr : Room n X.A) : OpR X (compareOp .NotIn) (rInO C sp true) := by
  intro pins s σ H x y v u Q I rx ry h
  obtain ⟨b, dx, fs, rfl, hH, hsp⟩ := h
  cases ry
  show wpAny _ _ (do return Value.bool (!(← contains (.ref b) v))) _ _ s
  refine wpAny_bind (contains_own F hs hf hb hr (R := fun t H' => Q (.bl (if true then !t else t)) H') I rx hH hsp fun t H' s' I' q => wpAny_pure ⟨.bl (!t), H', I', rfl, q⟩)
end
end L2
namespace VL
open PySem PySem.Spec PyProof.Rows L2
section
variable {K : KW} {W0 W : Wd} {E : XK} {b b' b1 b2 : Bool}
structure InX (P : Program) (w : World) (K : PySem.W.Frag) (mg : Str → Option Value) (base : Heap) (cl : Nat → Addr) (n : Nat) (C : Addr) (m : List D → Option Res) : Prop where
  ex : ∃ (f : Addr) (fd : FuncData) (ps : List Str), FnOk P w K mg base CX0 n f fd ps (spP (kw K w cl) m) ∧ PySem.W.findIn K (.ref C) "__contains__" = some (some (.ref f)) ∧ PySem.W.isFn K (.ref f) = true ∧ Binds K fd ps []
theorem op_inC {X : Cx} {n j : Nat} {C : Addr} {cl : Nat → Addr} {m : List D → Option Res} (c : InX X.prog X.w X.K X.mg X.base cl n C m) (hr : Room j X.A) (hk : n ≤ j) : OpR X (compareOp .In) (rInO C (spP (kw X.K X.w cl) m) false) := by
  obtain ⟨f, fd, ps, F, hs, hf, hb⟩ := c.ex
  exact op_inOwn F hs hf hb (hr.mono hk)
theorem op_notInC {X : Cx} {n j : Nat} {C : Addr} {cl : Nat → Addr} {m : List D → Option Res} (c : InX X.prog X.w X.K X.mg X.base cl n C m) (hr : Room j X.A) (hk : n ≤ j) : OpR X (compareOp .NotIn) (rInO C (spP (kw X.K X.w cl) m) true) := by
  obtain ⟨f, fd, ps, F, hs, hf, hb⟩ := c.ex
  exact op_notInOwn F hs hf hb (hr.mono hk)
def gInO (C : Addr) (m : List D → Option Res) (neg : Bool) (ga gb : GE) : GE := fun c => match ga c with
  | some x => match gb c with
    | some (.ins C1 ns ds) => if C1 = C then match m [.ins C1 ns ds, x] with
        | some (.val (.bl t)) => some (.bl (if neg then !t else t))
        | _ => none
      else none
    | _ => none
  | none => none
theorem vt_inO {C : Addr} {m : List D → Option Res} {neg : Bool} {ta tb : TE} {ga gb : GE} (h1 : VT K W0 true ta ga) (h2 : VT K W0 true tb gb) : VT K W0 b (tOp (rInO C (spP K m) neg) ta tb) (gInO C m neg ga gb) := by
  intro W σ c d Q k u s e q
  unfold gInO at e
  split at e
  · rename_i x ex
    split at e
    · rename_i C1 ns ds ey
      split at e
      · rename_i hC
        split at e
        · rename_i t hm
          cases e
          subst hC
          refine h1 W σ c _ _ k u s ex fun W1 v1 k1 g1 d1 => ?_
          refine h2 W1 σ c _ _ k1 (u.gr g1) (s.gr g1) ey fun W2 v2 k2 g2 d2 => ?_
          have e1 : Den K W2.F v1 x := d1.up g2.f
          cases d2 with
          | @ins a2 _ dx2 fs2 _ _ j1 j2 j3 =>
            refine ⟨a2, dx2, fs2, rfl, k2.fh _ _ j1, W2.F, [.ins C1 ns ds, x], .val (.bl t), k2.fh, .cons (.ins j1 j2 j3) (.cons e1 .nil), hm, ?_⟩
            intro H' F' v s1 s2 s3 s4 hd
            cases hd
            exact ⟨t, rfl, q ⟨H', W2.G, W2.F⟩ _ ⟨k2.fg, k2.gh.trans s1, k2.gt⟩ ((g1.trans g2).trans ⟨s1, Same.refl _, Same.refl _, fun _ _ _ => rfl, fun _ _ _ => rfl⟩) (.bl _)⟩
        · cases e
      · cases e
    · cases e
  · cases e
/-! ### x.index(y) where the items are data of any depth -/
theorem pe_idxD {K : PySem.W.Frag} {X : Cx} {o e : Expr} {to : TE} {t : TA} {apos cpos : Pos} (hK : X.K = K) (hu : X.A.units + 65 < cLine) (ho : PE X o to) (ha : PA X [e] t)
    (hbase : attributeBase o "index" X.env (eval o X.env) = eval o X.env := by rfl)
    (hfew : ((backTo cpos (starEach [e] X.env)).all (fun x => !x.1) && (backToKw cpos (keywordEach [] X.env)).all (fun x => x.1.isSome) && decide ([e].length + ([] : List Keyword).length + (if ([] : List Keyword).isEmpty then 0 else 1) < 30)) = true := by rfl)
    (hline : (apos.endLine == cpos.line) = true := by rfl) (hs : starEach [e] X.env = (false, eval e X.env) :: starEach [] X.env := by rfl) : PE X (.Call (.Attribute o "index" apos) [e] [] cpos) (tBM K "list" (rIndexD K) to t) := by
  subst hK
  exact pe_bm PySem.F.plainAttrs_list PySem.F.slot_list_index PySem.F.type_list_index (mt_indexD hu) ho ha hbase hfew hline hs
def dIdxD (x z : D) : Option D := match x with
  | .lst ds => match z.py, D.pyL ds with
    | some p, some ps => if SeqAt.shaped p = true ∧ SeqAt.shaped (.list ps) = true then (ps.findIdx? fun y => PyData.eqv y p).map fun (j : Nat) => D.int (j : Nat) else none
    | _, _ => none
  | _ => none
theorem vt_idxD {to te : TE} {ga gb : GE} (h1 : VT K W0 b1 to ga) (h2 : VT K W0 b2 te gb) : VT K W0 b (tBM K "list" (rIndexD K) to (tCons te tNil)) (g2 dIdxD ga gb) := by
  intro W σ c d Q k u s e q
  obtain ⟨x, z, ex, ez, ef⟩ := g2_some e
  refine h1 W σ c x _ k u s ex fun W1 v1 k1 g1 d1 => ?_
  unfold dIdxD at ef
  split at ef
  · rename_i ds
    split at ef
    · rename_i p ps hp hps
      split at ef
      · rename_i hs
        simp only [Option.map_eq_some_iff] at ef
        obtain ⟨j, hj, rfl⟩ := ef
        have dl := d1
        cases d1 with
        | @lst a xs _ e1 e2 =>
          obtain ⟨hlt, hpj, hno⟩ := List.findIdx?_eq_some_iff_getElem.mp hj
          refine ⟨.inl ⟨rfl, xs, SqL.of ((k1.atH b1) _ _ e1)⟩, h2 W1 σ c z _ k1 (u.gr g1) (s.gr g1) ez fun W2 v2 k2 g2 d2 => ?_⟩
          refine ⟨a, v2, p, ps, j, _, rfl, rfl, Den.dp _ _ _ (dl.up ((k1.atH b1).trans g2.h)) (by unfold D.py; rw [hps]; rfl), Den.dp _ _ _ (d2.up (k2.atH b2)) hp, hs.2, hs.1, List.getElem?_eq_getElem hlt, hpj, fun m z' hm hz' => ?_, q W2 _ k2 (g1.trans g2) (.int _)⟩
          obtain ⟨hm2, rfl⟩ := List.getElem?_eq_some_iff.mp hz'
          have := hno m hm
          simpa using this
      · cases ef
    · cases ef
  · cases ef
/-! ### text.find(sign), text.index(sign) -/
def rFindS : V → List V → Hp → VK → Prop := fun x xs H Q => ∃ a b, x = .str a ∧ xs = [.str b] ∧ Q (.int (Txt.find a b)) H
def rIdxS : V → List V → Hp → VK → Prop := fun x xs H Q => ∃ a b i rest, x = .str a ∧ xs = [.str b] ∧ Builtin.Str.occurrences a b 0 a.length 1 = i :: rest ∧ Q (.int (i : Nat)) H
theorem pe_findS {K : PySem.W.Frag} {X : Cx} {o e : Expr} {to : TE} {t : TA} {apos cpos : Pos} (hK : X.K = K) (ho : PE X o to) (ha : PA X [e] t)
    (hbase : attributeBase o "find" X.env (eval o X.env) = eval o X.env := by rfl)
    (hfew : ((backTo cpos (starEach [e] X.env)).all (fun x => !x.1) && (backToKw cpos (keywordEach [] X.env)).all (fun x => x.1.isSome) && decide ([e].length + ([] : List Keyword).length + (if ([] : List Keyword).isEmpty then 0 else 1) < 30)) = true := by rfl)
    (hline : (apos.endLine == cpos.line) = true := by rfl) (hs : starEach [e] X.env = (false, eval e X.env) :: starEach [] X.env := by rfl) : PE X (.Call (.Attribute o "find" apos) [e] [] cpos) (tBM K "str" rFindS to t) := by
  subst hK
  exact pe_bm PySem.F.plainAttrs_str PySem.F.slot_str_find PySem.F.type_str_find mt_find ho ha hbase hfew hline hs
theorem pe_idxS {K : PySem.W.Frag} {X : Cx} {o e : Expr} {to : TE} {t : TA} {apos cpos : Pos} (hK : X.K = K) (ho : PE X o to) (ha : PA X [e] t)
    (hbase : attributeBase o "index" X.env (eval o X.env) = eval o X.env := by rfl)
    (hfew : ((backTo cpos (starEach [e] X.env)).all (fun x => !x.1) && (backToKw cpos (keywordEach [] X.env)).all (fun x => x.1.isSome) && decide ([e].length + ([] : List Keyword).length + (if ([] : List Keyword).isEmpty then 0 else 1) < 30)) = true := by rfl)
    (hline : (apos.endLine == cpos.line) = true := by rfl) (hs : starEach [e] X.env = (false, eval e X.env) :: starEach [] X.env := by rfl) : PE X (.Call (.Attribute o "index" apos) [e] [] cpos) (tBM K "str" rIdxS to t) := by
  subst hK
  exact pe_bm PySem.F.plainAttrs_str PySem.F.slot_str_index PySem.F.type_str_index mt_sindex ho ha hbase hfew hline hs
def dFindS : D → D → Option D
  | .str a, .str b => some (.int (Txt.find a b))
  | _, _ => none
def dIdxS : D → D → Option D
  | .str a, .str b => match Builtin.Str.occurrences a b 0 a.length 1 with
    | i :: _ => some (.int (i : Nat))
    | [] => none
  | _, _ => none
theorem vt_findS {to te : TE} {ga gb : GE} (h1 : VT K W0 b1 to ga) (h2 : VT K W0 b2 te gb) : VT K W0 b (tBM K "str" rFindS to (tCons te tNil)) (g2 dFindS ga gb) := by
  intro W σ c d Q k u s e q
  obtain ⟨x, z, ex, ez, ef⟩ := g2_some e
  refine h1 W σ c x _ k u s ex fun W1 v1 k1 g1 d1 => ?_
  unfold dFindS at ef
  split at ef
  · rename_i x1 z1
    cases ef
    cases d1
    refine ⟨?tv, h2 W1 σ c _ _ k1 (u.gr g1) (s.gr g1) ez fun W2 v2 k2 g2 d2 => ?_⟩
    case tv => exact rfl
    cases d2
    exact ⟨x1, z1, rfl, rfl, q W2 _ k2 (g1.trans g2) (.int _)⟩
  · cases ef
theorem vt_idxS {to te : TE} {ga gb : GE} (h1 : VT K W0 b1 to ga) (h2 : VT K W0 b2 te gb) : VT K W0 b (tBM K "str" rIdxS to (tCons te tNil)) (g2 dIdxS ga gb) := by
  intro W σ c d Q k u s e q
  obtain ⟨x, z, ex, ez, ef⟩ := g2_some e
  refine h1 W σ c x _ k u s ex fun W1 v1 k1 g1 d1 => ?_
  unfold dIdxS at ef
  split at ef
  · rename_i x1 z1
    split at ef
    · rename_i i rest ho
      cases ef
      cases d1
      refine ⟨?tv, h2 W1 σ c _ _ k1 (u.gr g1) (s.gr g1) ez fun W2 v2 k2 g2 d2 => ?_⟩
      case tv => exact rfl
      cases d2
      exact ⟨x1, z1, i, rest, rfl, rfl, ho, q W2 _ k2 (g1.trans g2) (.int _)⟩
    · cases ef
  · cases ef
end
end VL
end

section
/-! VPT: structures of lists of one's own in the plain part. -/
namespace VL
open PySem PySem.Spec PyProof.Rows L2
section
variable {c : Env} {P : Out → Prop} {i : Nat} {gk gk2 : GE} {a : Option Nat} {gt : Env → Option T} {x : T}
theorem wp_pApp {ts : List T} (hc : c[i]? = some (some (.tre a (.lst ts)))) (ht : gt c = some x) (hl : ts.length < sizeLine) (hP : P (.nx (c.set i (some (.tre a (.lst (ts ++ [x]))))))) : Wp (gPApp (gpVar i) gt) c P := by
  refine ⟨_, ?_, hP⟩
  unfold gPApp
  simp only [atP_var hc, ht, if_pos hl]
  rw [setT_at hc]
  rfl
theorem ixN_nat {n k : Nat} (h : k < n) : ixN n (k : Int) = some k := by
  unfold ixN
  rw [if_pos (by omega), if_pos (by omega), Int.toNat_natCast]
theorem at_ix {ts : List T} {k : Nat} {t1 : T} (hc : c[i]? = some (some (.tre a (.lst ts)))) (hk : gk c = some (.int (k : Nat))) (h : ts[k]? = some t1) : gpIx (gpVar i) gk c = some (i, [k]) ∧ atP (gpIx (gpVar i) gk) c = some (i, [k], .lst ts, t1) := by
  have hl : k < ts.length := (List.getElem?_eq_some_iff.mp h).1
  have e : gpIx (gpVar i) gk c = some (i, [k]) := by
    unfold gpIx
    simp only [atP_var hc, hk, ixN_nat hl, if_pos hl]
    rfl
  refine ⟨e, ?_⟩
  have e2 : T.sub [k] (.lst ts) = some t1 := by
    show (match ts[k]? with | some t => T.sub [] t | none => none) = _
    rw [h]; rfl
  unfold atP
  simp only [e, hc, e2]
theorem wp_pSet2 {ts us : List T} {k k2 : Nat} (hc : c[i]? = some (some (.tre a (.lst ts)))) (hk : gk c = some (.int (k : Nat))) (h : ts[k]? = some (.lst us)) (hk2 : gk2 c = some (.int (k2 : Nat))) (h2 : k2 < us.length) (ht : gt c = some x) (hP : P (.nx (c.set i (some (.tre a (.lst (ts.set k (.lst (us.set k2 x))))))))) : Wp (gPSet (gpIx (gpVar i) gk) gk2 gt) c P := by
  refine ⟨_, ?_, hP⟩
  unfold gPSet
  simp only [(at_ix hc hk h).2, ht, hk2, ixN_nat h2, if_pos h2]
  rw [setT_at hc]
  have e : T.put [k] (.lst (us.set k2 x)) (.lst ts) = .lst (ts.set k (.lst (us.set k2 x))) := by
    show (match ts[k]? with | some t => T.withKids (.lst ts) (ts.set k (T.put [] (.lst (us.set k2 x)) t)) | none => .lst ts) = _
    rw [h]; rfl
  rw [e]
theorem e_leaf2 {ts us : List T} {k k2 : Nat} {d : D} (hc : c[i]? = some (some (.tre a (.lst ts)))) (hk : gk c = some (.int (k : Nat))) (h : ts[k]? = some (.lst us)) (hk2 : gk2 c = some (.int (k2 : Nat))) (h2 : us[k2]? = some (.leaf d)) : gLeafP (gpIx (gpIx (gpVar i) gk) gk2) c = some d := by
  have hl : k2 < us.length := (List.getElem?_eq_some_iff.mp h2).1
  have e1 : gpIx (gpIx (gpVar i) gk) gk2 c = some (i, [k, k2]) := by
    unfold gpIx
    have := (at_ix (gk := gk) hc hk h).2
    unfold gpIx at this
    simp only [this, hk2, ixN_nat hl, if_pos hl]
    rfl
  have e2 : T.sub [k, k2] (.lst ts) = some (.leaf d) := by
    show (match ts[k]? with | some t => T.sub [k2] t | none => none) = _
    rw [h]
    show (match us[k2]? with | some t => T.sub [] t | none => none) = _
    rw [h2]; rfl
  unfold gLeafP atP
  simp only [e1, hc, e2]
theorem e_viewT {t : T} (hc : c[i]? = some (some (.tre a t))) (hp : t.plain = true) : gView (gpVar i) c = some t.view := by
  unfold gView
  rw [atP_var hc]
  exact if_pos hp
theorem e_viewTA {t : T} {g2 : GE} (hc : c[i]? = some (some (.tre a t))) (hp : t.plain = true) : gAlt (gView (gpVar i)) g2 c = some t.view := by
  unfold gAlt; rw [e_viewT hc hp]
theorem e_tCons {g : Env → Option T} {gs : Env → Option (List T)} {t : T} {ts : List T} (h : g c = some t) (hs : gs c = some ts) : tgCons g gs c = some (t :: ts) := by
  unfold tgCons; rw [h, hs]
theorem e_tLst {gs : Env → Option (List T)} {ts : List T} (h : gs c = some ts) (hl : ts.length ≤ sizeLine) : tgLst gs c = some (.lst ts) := by
  unfold tgLst; rw [h]; exact if_pos hl
end
section
variable {α : Type} [DecidableEq α] {e : α → D} {n : Nat}
/-- the place in a row of any depth -/
theorem Emb.idxD (h : Emb e n) (hn : n ≤ 63) {a : α} {xs : List α} {k : Nat} (hk : xs.findIdx? (fun y => decide (y = a)) = some k) : dIdxD (.lst (xs.map e)) (e a) = some (.int (k : Nat)) := by
  unfold dIdxD
  simp only [h.hp, pyL_map h]
  rw [if_pos ⟨h.shaped (by omega) a, h.lst.shaped (by omega) xs⟩, List.findIdx?_map]
  have : ((fun y => PyData.eqv y (h.p a)) ∘ h.p) = fun y => decide (y = a) := by
    funext y
    exact h.ev y a
  rw [this, hk]; rfl
def Emb.nat : Emb (fun k : Nat => D.int (k : Nat)) 0 where
  p k := .int (k : Nat)
  hp _ := rfl
  ev a b := by simp only [PyData.eqv]; exact Bool.eq_iff_iff.mpr (by simp; omega)
  ly _ := by simp [PyData.canLay0]
  dp _ := by simp [PyData.depth]
end
end VL
end

section
namespace K77
open PySem PySem.Spec PyProof.Rows L2 VL

def top (i : Nat) : Stmt := PySem.Challenge.pw_fourleashes_k77_same_counts_beaten.main.body.getD i (.Pass ⟨0, 0, 0, 0⟩)

/-- where the classes stand -/
structure Ad where
  C_Automaton : Addr
  C_Beaten : Addr
  C_AlphabetsDiffer : Addr
  C_LeashError : Addr

/-- .. by number -/
def Ad.cls (A : Ad) : Nat → Addr
  | 0 => A.C_Automaton
  | 1 => A.C_Beaten
  | _ => 0

abbrev s_is_whole : Stmt := top 10

abbrev N_is_whole : List Str := ["value"]

abbrev s_is_alphabet : Stmt := top 11

abbrev N_is_alphabet : List Str := ["value", "index"]

abbrev s_check_alphabet : Stmt := top 12

abbrev N_check_alphabet : List Str := ["alphabet"]

abbrev s_first_stranger : Stmt := top 13

abbrev N_first_stranger : List Str := ["alphabet", "text", "index"]

abbrev s_reached_states : Stmt := top 15

abbrev N_reached_states : List Str := ["states", "order", "known", "index", "target"]

abbrev s_classes_of : Stmt := top 16

abbrev N_classes_of : List Str := ["states", "order", "classes", "many", "numbers", "finer", "state", "key", "target"]

abbrev s_least_form : Stmt := top 17

abbrev N_least_form : List Str := ["states", "order", "classes", "firsts", "known", "state", "out", "moves", "target"]

abbrev s_is_state : Stmt := top 20

abbrev N_is_state : List Str := ["state", "letters", "many", "target"]

abbrev s_state_of : Stmt := top 22

abbrev N_state_of : List Str := ["alphabet", "states", "text", "state", "letter"]

abbrev s_Automaton_init : Stmt := inClass (top 23) 0

abbrev N_Automaton_init : List Str := ["self", "alphabet", "states", "rows", "index", "state"]

abbrev s_Automaton_contains : Stmt := inClass (top 23) 6

abbrev N_Automaton_contains : List Str := ["self", "text"]

abbrev s_Beaten_init : Stmt := inClass (top 2) 0

abbrev N_Beaten_init : List Str := ["self", "text", "taken", "belongs"]

abbrev s_check_alphabet_is : Stmt := top 26

abbrev N_check_alphabet_is : List Str := ["thing", "alphabet"]

abbrev s_in_same_counts : Stmt := top 27

abbrev N_in_same_counts : List Str := ["text", "half"]

abbrev s_first_twins : Stmt := top 28

abbrev N_first_twins : List Str := ["automaton", "met", "state", "many"]

abbrev s_beat_same_counts : Stmt := top 29

abbrev N_beat_same_counts : List Str := ["automaton", "few", "many", "text"]

abbrev s__law_cell : Stmt := top 31

abbrev N__law_cell : List Str := ["script", "k", "seed", "cell"]

abbrev s__law_digits : Stmt := top 32

abbrev N__law_digits : List Str := ["cell", "sizes", "row", "rest", "size", "seed", "k", "twice"]

abbrev s__law_counting : Stmt := top 33

abbrev N__law_counting : List Str := ["many", "dead", "states", "k", "up", "down"]

abbrev s__law_states : Stmt := top 34

abbrev N__law_states : List Str := ["script", "row", "many", "drawn", "k", "states", "at"]

abbrev s__law_takes : Stmt := top 35

abbrev N__law_takes : List Str := ["states", "text", "state", "letter"]

abbrev s__law_classes : Stmt := top 36

abbrev N__law_classes : List Str := ["states", "classes", "turn", "keys", "state", "k", "key"]

abbrev s__law_belongs : Stmt := top 37

abbrev N__law_belongs : List Str := ["text", "half"]

abbrev s__law_says : Stmt := top 38

abbrev N__law_says : List Str := ["text", "told"]

abbrev s__law_differs : Stmt := top 39

abbrev N__law_differs : List Str := ["fault"]

abbrev s_law : Stmt := top 40

abbrev N_law : List Str := ["script", "states", "classes", "met", "state", "k", "few", "due", "told", "row", "strings", "string", "one"]

def g_is_whole (A : Ad) : GS :=
 (gRet (gBl (gAnd (gB (gIsi "int" (gLook 0))) (gB (gBl (gNot (gB (gIsi "bool" (gLook 0)))))))))

def m_is_whole (A : Ad) : List D → Option Res := mOf 1 1 (g_is_whole A)

def g_is_alphabet (A : Ad) : GS :=
 (gSeq (gIf (gNot (gB (gChain dLe dLe (gC (.int 1)) (gCall fLen (VL.gCons (gLook 0) VL.gNil)) (gC (.int 26))))) (gRet (gC (.bl false))) gNext)
 (gSeq (gFor (gRg1 (VL.gCons (gCall fLen (VL.gCons (gLook 0) VL.gNil)) VL.gNil)) (fName 1) (gSeq (gIf (gB (g2 dNotIn (g2 dIx (gLook 0) (gLook 1)) (gC (.str "abcdefghijklmnopqrstuvwxyz")))) (gRet (gC (.bl false))) gNext)
 (gIf (gAnd (gB (g2 dGt (gLook 1) (gC (.int 0)))) (gB (g2 dGe (g2 dIx (gLook 0) (g2 dSub (gLook 1) (gC (.int 1)))) (g2 dIx (gLook 0) (gLook 1))))) (gRet (gC (.bl false))) gNext)))
 (gRet (gC (.bl true)))))

def m_is_alphabet (A : Ad) : List D → Option Res := mOf 1 2 (g_is_alphabet A)

def g_check_alphabet (A : Ad) : GS :=
 (gIf (gNot (gTru (gFn (m_is_alphabet A) (VL.gCons (gLook 0) VL.gNil)))) gNever gNext)

def m_check_alphabet (A : Ad) : List D → Option Res := mOf 1 1 (g_check_alphabet A)

def g_first_stranger (A : Ad) : GS :=
 (gSeq (gFor (gRg1 (VL.gCons (gCall fLen (VL.gCons (gLook 1) VL.gNil)) VL.gNil)) (fName 2) (gIf (gB (g2 dNotIn (g2 dIx (gLook 1) (gLook 2)) (gLook 0))) (gRet (gVar 2)) gNext))
 (gRet (gC .non)))

def m_first_stranger (A : Ad) : List D → Option Res := mOf 2 3 (g_first_stranger A)

def g_reached_states (A : Ad) : GS :=
 (gSeq (gAsgN 1 (gLen (VL.gCons (gC (.int 0)) VL.gNil)))
 (gSeq (gAsgT 2 (tgD1 false (gC (.int 0)) (tgLeaf (gC (.bl true)))))
 (gSeq (gAsg (gC (.int 0)) (fName 3))
 (gSeq (gWhile (fun _ => 1000) (gB (g2 dLt (gLook 3) (gCall fLen (VL.gCons (gLook 1) VL.gNil)))) (gSeq (gFor (gIt (g2 dIx (g2 dIx (gLook 0) (g2 dIx (gLook 1) (gLook 3))) (gC (.int 1)))) (fName 4) (gIf (gB (g2 dNotIn (gLook 4) (gAlt (gView (gpVar 2)) (gVar 2)))) (gSeq (gPSet (gpVar 2) (gVar 4) (tgLeaf (gC (.bl true))))
 (gAppend 1 (gVar 4))) gNext))
 (gAsg (g2 dAdd (gVar 3) (gC (.int 1))) (fName 3))))
 (gRet (gVar 1))))))

def m_reached_states (A : Ad) : List D → Option Res := mOf 1 5 (g_reached_states A)

def g_classes_of (A : Ad) : GS :=
 (gSeq (gAsgT 2 (tgDc false (gIt (gVar 1)) (fName 6) gYes (gVar 6) (tgLeaf (gCall fInt (VL.gCons (g2 dIx (g2 dIx (gLook 0) (gLook 6)) (gC (.int 0))) VL.gNil))) [6]))
 (gSeq (gAsg (gC (.int 0)) (fName 3))
 (gWhile (fun _ => 1000) (gTru (gC (.bl true))) (gSeq (gAsgT 4 (tgD0 true))
 (gSeq (gAsgT 5 (tgD0 false))
 (gSeq (gFor (gIt (gVar 1)) (fName 6) (gSeq (gAsg (VL.gTup (VL.gCons (gAlt (gLeafP (gpIx (gpVar 2) (gLook 6))) (g2 dIx (gLook 2) (gLook 6))) (VL.gCons (gCall fTuple (VL.gCons (gL (gLc (gIt (g2 dIx (g2 dIx (gLook 0) (gLook 6)) (gC (.int 1)))) (fName 8) gYes (gAlt (gLeafP (gpIx (gpVar 2) (gLook 8))) (g2 dIx (gLook 2) (gLook 8))) [8])) VL.gNil)) VL.gNil))) (fName 7))
 (gSeq (gIf (gB (g2 dNotIn (gLook 7) (gAlt (gView (gpVar 4)) (gVar 4)))) (gPSet (gpVar 4) (gVar 7) (tgLeaf (gCall fLen (VL.gCons (gAlt (gView (gpVar 4)) (gVar 4)) VL.gNil)))) gNext)
 (gPSet (gpVar 5) (gVar 6) (tgLeaf (gAlt (gLeafP (gpIx (gpVar 4) (gLook 7))) (g2 dIx (gLook 4) (gLook 7))))))))
 (gSeq (gIf (gB (g2 dEq (gCall fLen (VL.gCons (gAlt (gView (gpVar 4)) (gVar 4)) VL.gNil)) (gLook 3))) (gFrzT 5 (gRet (gVar 5))) gNext)
 (gSeq (gAsg (gCall fLen (VL.gCons (gAlt (gView (gpVar 4)) (gVar 4)) VL.gNil)) (fName 3))
 (gMv 2 5)))))))))

def m_classes_of (A : Ad) : List D → Option Res := mOf 2 9 (g_classes_of A)

def g_least_form (A : Ad) : GS :=
 (gSeq (gAsg (gFn (m_reached_states A) (VL.gCons (gVar 0) VL.gNil)) (fName 1))
 (gSeq (gAsg (gFn (m_classes_of A) (VL.gCons (gVar 0) (VL.gCons (gVar 1) VL.gNil))) (fName 2))
 (gSeq (gAsgN 3 (gLen VL.gNil))
 (gSeq (gAsgT 4 (tgD0 false))
 (gSeq (gFor (gIt (gVar 1)) (fName 5) (gIf (gB (g2 dNotIn (g2 dIx (gLook 2) (gLook 5)) (gAlt (gView (gpVar 4)) (gVar 4)))) (gSeq (gPSet (gpVar 4) (g2 dIx (gLook 2) (gLook 5)) (tgLeaf (gCall fLen (VL.gCons (gLook 3) VL.gNil))))
 (gAppend 3 (gVar 5))) gNext))
 (gSeq (gAsgN 6 (gLen VL.gNil))
 (gSeq (gFrz 3 (gFor (gIt (gVar 3)) (fName 5) (gSeq (gAsg (gL (gLc (gIt (g2 dIx (g2 dIx (gLook 0) (gLook 5)) (gC (.int 1)))) (fName 8) gYes (gAlt (gLeafP (gpIx (gpVar 4) (g2 dIx (gLook 2) (gLook 8)))) (g2 dIx (gLook 4) (g2 dIx (gLook 2) (gLook 8)))) [8])) (fName 7))
 (gAppend 6 (VL.gTup (VL.gCons (g2 dIx (g2 dIx (gLook 0) (gLook 5)) (gC (.int 0))) (VL.gCons (gCall fTuple (VL.gCons (gVar 7) VL.gNil)) VL.gNil)))))))
 (gRet (gCall fTuple (VL.gCons (gVar 6) VL.gNil))))))))))

def m_least_form (A : Ad) : List D → Option Res := mOf 1 9 (g_least_form A)

def g_is_state (A : Ad) : GS :=
 (gSeq (gIf (gB (g2 dNe (gCall fLen (VL.gCons (g2 dIx (gLook 0) (gC (.int 1))) VL.gNil)) (gLook 1))) (gRet (gC (.bl false))) gNext)
 (gSeq (gFor (gIt (g2 dIx (gLook 0) (gC (.int 1)))) (fName 3) (gIf (gOr (gNot (gTru (gFn (m_is_whole A) (VL.gCons (gLook 3) VL.gNil)))) (gNot (gB (gChain dLe dLt (gC (.int 0)) (gLook 3) (gLook 2))))) (gRet (gC (.bl false))) gNext))
 (gRet (gC (.bl true)))))

def m_is_state (A : Ad) : List D → Option Res := mOf 3 4 (g_is_state A)

def g_state_of (A : Ad) : GS :=
 (gSeq (gAsg (gC (.int 0)) (fName 3))
 (gSeq (gFor (gIt (gVar 2)) (fName 4) (gAsg (g2 dIx (g2 dIx (g2 dIx (gLook 1) (gLook 3)) (gC (.int 1))) (g2 dFindS (gLook 0) (gLook 4))) (fName 3)))
 (gRet (gVar 3))))

def m_state_of (A : Ad) : List D → Option Res := mOf 3 5 (g_state_of A)

def g_Automaton_init (A : Ad) : GS :=
 (gSeq (gDrop (gFn (m_check_alphabet A) (VL.gCons (gLook 1) VL.gNil)))
 (gSeq (gIf (gB (g2 dEq (gCall fLen (VL.gCons (gLook 2) VL.gNil)) (gC (.int 0)))) gNever gNext)
 (gSeq (gAsgN 3 (gLen VL.gNil))
 (gSeq (gFor (gEnum (gVar 2)) (fTupU 2 (fCons (fName 4) (fCons (fName 5) fNil))) (gSeq (gIf (gNot (gTru (gFn (m_is_state A) (VL.gCons (gLook 5) (VL.gCons (gCall fLen (VL.gCons (gLook 1) VL.gNil)) (VL.gCons (gCall fLen (VL.gCons (gLook 2) VL.gNil)) VL.gNil)))))) gNever gNext)
 (gAppend 3 (VL.gTup (VL.gCons (g2 dIx (gLook 5) (gC (.int 0))) (VL.gCons (gCall fTuple (VL.gCons (g2 dIx (gLook 5) (gC (.int 1))) VL.gNil)) VL.gNil))))))
 (gSeq (gFldS A.C_Automaton 0 "alphabet" (gVar 1))
 (gFrz 3 (gFldS A.C_Automaton 0 "states" (gFn (m_least_form A) (VL.gCons (gVar 3) VL.gNil)))))))))

def i_Automaton (A : Ad) : List D → Option (List Str × List D) := iOf A.C_Automaton 2 6 (g_Automaton_init A)

def g_Automaton_contains (A : Ad) : GS :=
 (gSeq (gIf (gB (g2 dIsNot (gFn (m_first_stranger A) (VL.gCons (gFld A.C_Automaton "alphabet" (gLook 0)) (VL.gCons (gLook 1) VL.gNil))) (gC .non))) (gRet (gC (.bl false))) gNext)
 (gRet (g2 dIx (g2 dIx (gFld A.C_Automaton "states" (gVar 0)) (gFn (m_state_of A) (VL.gCons (gFld A.C_Automaton "alphabet" (gVar 0)) (VL.gCons (gFld A.C_Automaton "states" (gVar 0)) (VL.gCons (gVar 1) VL.gNil))))) (gC (.int 0)))))

def m_Automaton_contains (A : Ad) : List D → Option Res := mOf 2 2 (g_Automaton_contains A)

def g_Beaten_init (A : Ad) : GS :=
 (gSeq (gFldS A.C_Beaten 0 "text" (gVar 1))
 (gSeq (gFldS A.C_Beaten 0 "taken" (gVar 2))
 (gFldS A.C_Beaten 0 "belongs" (gVar 3))))

def i_Beaten (A : Ad) : List D → Option (List Str × List D) := iOf A.C_Beaten 3 4 (g_Beaten_init A)

def g_check_alphabet_is (A : Ad) : GS :=
 (gIf (gB (g2 dNe (gFld A.C_Automaton "alphabet" (gLook 0)) (gLook 1))) (gRaise2 A.C_AlphabetsDiffer "one" "two" (VL.gCons (gFld A.C_Automaton "alphabet" (gVar 0)) (VL.gCons (gVar 1) VL.gNil))) gNext)

def m_check_alphabet_is (A : Ad) : List D → Option Res := mOf 2 2 (g_check_alphabet_is A)

def g_in_same_counts (A : Ad) : GS :=
 (gSeq (gAsg (g2 dFdiv (gCall fLen (VL.gCons (gLook 0) VL.gNil)) (gC (.int 2))) (fName 1))
 (gRet (g2 dEq (gLook 0) (g2 dAdd (g2 dMul (gC (.str "a")) (gLook 1)) (g2 dMul (gC (.str "b")) (gLook 1))))))

def m_in_same_counts (A : Ad) : List D → Option Res := mOf 1 2 (g_in_same_counts A)

def g_first_twins (A : Ad) : GS :=
 (gSeq (gAsgT 1 (tgD0 false))
 (gSeq (gAsg (gC (.int 0)) (fName 2))
 (gSeq (gAsg (gC (.int 0)) (fName 3))
 (gSeq (gWhile (fun _ => 1000) (gB (g2 dNotIn (gLook 2) (gAlt (gView (gpVar 1)) (gVar 1)))) (gSeq (gPSet (gpVar 1) (gVar 2) (tgLeaf (gVar 3)))
 (gSeq (gAsg (g2 dIx (g2 dIx (g2 dIx (gFld A.C_Automaton "states" (gVar 0)) (gVar 2)) (gC (.int 1))) (gC (.int 0))) (fName 2))
 (gAug 3 dAddI (gC (.int 1))))))
 (gRet (VL.gTup (VL.gCons (gAlt (gLeafP (gpIx (gpVar 1) (gLook 2))) (g2 dIx (gLook 1) (gLook 2))) (VL.gCons (gVar 3) VL.gNil))))))))

def m_first_twins (A : Ad) : List D → Option Res := mOf 1 4 (g_first_twins A)

def g_beat_same_counts (A : Ad) : GS :=
 (gSeq (gCallX (m_check_alphabet_is A) (VL.gCons (gVar 0) (VL.gCons (gC (.str "ab")) VL.gNil)) fun _ c => some (.nx c))
 (gSeq (gAsg (gFn (m_first_twins A) (VL.gCons (gVar 0) VL.gNil)) (fTupU 2 (fCons (fName 1) (fCons (fName 2) fNil))))
 (gSeq (gAsg (g2 dAdd (g2 dMul (gC (.str "a")) (gVar 1)) (g2 dMul (gC (.str "b")) (gVar 1))) (fName 3))
 (gSeq (gIf (gB (gInO A.C_Automaton (m_Automaton_contains A) true (gVar 3) (gVar 0))) (gRet (gMake A.C_Beaten (i_Beaten A) (VL.gCons (gVar 3) (VL.gCons (gC (.bl false)) (VL.gCons (gC (.bl true)) VL.gNil))))) gNext)
 (gRet (gMake A.C_Beaten (i_Beaten A) (VL.gCons (g2 dAdd (g2 dMul (gC (.str "a")) (gVar 2)) (g2 dMul (gC (.str "b")) (gVar 1))) (VL.gCons (gC (.bl true)) (VL.gCons (gC (.bl false)) VL.gNil)))))))))

def m_beat_same_counts (A : Ad) : List D → Option Res := mOf 1 4 (g_beat_same_counts A)

def g__law_cell (A : Ad) : GS :=
 (gSeq (gIf (gB (g2 dLt (gLook 1) (gCall fLen (VL.gCons (gLook 0) VL.gNil)))) (gRet (g2 dIx (gLook 0) (gLook 1))) gNext)
 (gSeq (gAsg (gC (.int 17)) (fName 2))
 (gSeq (gFor (gIt (gVar 0)) (fName 3) (gAsg (g2 dMod (gCall fInt (VL.gCons (g2 dAdd (g2 dMul (gLook 2) (gC (.int 31))) (g2 dMod (gCall fInt (VL.gCons (gLook 3) VL.gNil)) (gC (.int 1000003)))) VL.gNil)) (gC (.int 1000003))) (fName 2)))
 (gRet (g2 dMod (gCall fInt (VL.gCons (g2 dMul (g2 dMul (g2 dAdd (gLook 2) (gC (.int 7))) (g2 dAdd (gLook 1) (gC (.int 3)))) (gC (.int 69621))) VL.gNil)) (gC (.int 2147483647)))))))

def m__law_cell (A : Ad) : List D → Option Res := mOf 2 4 (g__law_cell A)

def g__law_digits (A : Ad) : GS :=
 (gSeq (gAsgN 2 (gLen VL.gNil))
 (gSeq (gAsg (gCall fInt (VL.gCons (gLook 0) VL.gNil)) (fName 3))
 (gSeq (gIf (gB (g2 dGe (gLook 3) (g2 dPow (gC (.int 10)) (gC (.int 18))))) (gSeq (gAsg (g2 dMod (gCall fInt (VL.gCons (g2 dSub (gLook 3) (g2 dPow (gC (.int 10)) (gC (.int 18)))) VL.gNil)) (g2 dPow (gC (.int 10)) (gC (.int 64)))) (fName 3))
 (gSeq (gFor (gIt (gVar 1)) (fName 4) (gSeq (gAppend 2 (g2 dMod (gCall fInt (VL.gCons (gLook 3) VL.gNil)) (gLook 4)))
 (gAsg (g2 dFdiv (gCall fInt (VL.gCons (gLook 3) VL.gNil)) (gLook 4)) (fName 3))))
 (gRet (gVar 2)))) gNext)
 (gSeq (gAsg (g2 dMod (gCall fInt (VL.gCons (gLook 3) VL.gNil)) (gC (.int 2147483629))) (fName 5))
 (gSeq (gFor (gRg1 (VL.gCons (gCall fLen (VL.gCons (gLook 1) VL.gNil)) VL.gNil)) (fName 6) (gSeq (gAsg (g2 dMod (gCall fInt (VL.gCons (g2 dAdd (g2 dAdd (g2 dMul (gLook 5) (gC (.int 48271))) (g2 dMul (gC (.int 974711)) (gLook 6))) (gC (.int 12345))) VL.gNil)) (gC (.int 2147483647))) (fName 5))
 (gSeq (gAsg (g2 dMod (gCall fInt (VL.gCons (g2 dMul (gLook 5) (g2 dAdd (g2 dFdiv (gLook 5) (gC (.int 65537))) (gC (.int 3)))) VL.gNil)) (gC (.int 2147483629))) (fName 7))
 (gAppend 2 (g2 dMod (g2 dFdiv (gLook 7) (gC (.int 19))) (g2 dIx (gLook 1) (gLook 6)))))))
 (gRet (gVar 2)))))))

def m__law_digits (A : Ad) : List D → Option Res := mOf 2 8 (g__law_digits A)

def g__law_counting (A : Ad) : GS :=
 (gSeq (gAsg (g2 dMul (gC (.int 2)) (gVar 0)) (fName 1))
 (gSeq (gAsgT 2 (tgNew (gLen VL.gNil)))
 (gSeq (gFor (gRg1 (VL.gCons (gLook 0) VL.gNil)) (fName 3) (gSeq (gAsg (gVar 1) (fName 4))
 (gSeq (gIf (gB (g2 dLt (g2 dAdd (gLook 3) (gC (.int 1))) (gLook 0))) (gAsg (g2 dAdd (gVar 3) (gC (.int 1))) (fName 4)) gNext)
 (gSeq (gAsg (gVar 1) (fName 5))
 (gSeq (gIf (gB (g2 dGt (gLook 3) (gC (.int 0)))) (gAsg (g2 dSub (g2 dAdd (gLook 0) (gLook 3)) (gC (.int 1))) (fName 5)) gNext)
 (gPApp (gpVar 2) (tgLst (tgCons (tgLeaf (g2 dEq (gLook 3) (gC (.int 0)))) (tgCons (tgLst (tgCons (tgLeaf (gVar 4)) (tgCons (tgLeaf (gVar 5)) tgNil))) tgNil)))))))))
 (gSeq (gFor (gRg1 (VL.gCons (gLook 0) VL.gNil)) (fName 3) (gSeq (gAsg (gVar 1) (fName 5))
 (gSeq (gIf (gB (g2 dGt (gLook 3) (gC (.int 0)))) (gAsg (g2 dSub (g2 dAdd (gLook 0) (gLook 3)) (gC (.int 1))) (fName 5)) gNext)
 (gPApp (gpVar 2) (tgLst (tgCons (tgLeaf (g2 dEq (gLook 3) (gC (.int 0)))) (tgCons (tgLst (tgCons (tgLeaf (gVar 1)) (tgCons (tgLeaf (gVar 5)) tgNil))) tgNil)))))))
 (gSeq (gPApp (gpVar 2) (tgLst (tgCons (tgLeaf (gC (.bl false))) (tgCons (tgLst (tgCons (tgLeaf (gVar 1)) (tgCons (tgLeaf (gVar 1)) tgNil))) tgNil))))
 (gRetO 2))))))

def m__law_counting (A : Ad) : List D → Option T := moOf 1 6 (g__law_counting A)

def g__law_states (A : Ad) : GS :=
 (gSeq (gAsg (gFn (m__law_digits A) (VL.gCons (gFn (m__law_cell A) (VL.gCons (gVar 0) (VL.gCons (gC (.int 0)) VL.gNil))) (VL.gCons (gL (gCat (gL (gLen (VL.gCons (gC (.int 6)) (VL.gCons (gC (.int 6)) VL.gNil)))) (g2 dMul (gL (gLen (VL.gCons (gC (.int 2)) (VL.gCons (gC (.int 6)) (VL.gCons (gC (.int 6)) VL.gNil))))) (gC (.int 6))))) VL.gNil))) (fName 1))
 (gSeq (gAsg (g2 dAdd (gC (.int 1)) (gCall fInt (VL.gCons (g2 dIx (gLook 1) (gC (.int 1))) VL.gNil))) (fName 2))
 (gSeq (gAsgN 3 (gLen VL.gNil))
 (gSeq (gFor (gRg1 (VL.gCons (gLook 2) VL.gNil)) (fName 4) (gAppend 3 (gL (gLen (VL.gCons (g2 dEq (g2 dIx (gLook 1) (g2 dAdd (gC (.int 2)) (g2 dMul (gC (.int 3)) (gLook 4)))) (gC (.int 1))) (VL.gCons (gL (gLen (VL.gCons (g2 dMod (gCall fInt (VL.gCons (g2 dIx (gLook 1) (g2 dAdd (gC (.int 3)) (g2 dMul (gC (.int 3)) (gLook 4)))) VL.gNil)) (gLook 2)) (VL.gCons (g2 dMod (gCall fInt (VL.gCons (g2 dIx (gLook 1) (g2 dAdd (gC (.int 4)) (g2 dMul (gC (.int 3)) (gLook 4)))) VL.gNil)) (gLook 2)) VL.gNil)))) VL.gNil))))))
 (gSeq (gIf (gB (g2 dLt (g2 dIx (gLook 1) (gC (.int 0))) (gC (.int 2)))) (gRet (gVar 3)) gNext)
 (gSeq (gAsgT 5 (gFnT (m__law_counting A) (VL.gCons (gVar 2) VL.gNil)))
 (gSeq (gIf (gB (g2 dEq (g2 dIx (gLook 1) (gC (.int 0))) (gC (.int 2)))) (gAsgT 5 (tgLst (tgCons (tgLst (tgCons (tgLeaf (gC (.bl true))) (tgCons (tgLst (tgCons (tgLeaf (gC (.int 0))) (tgCons (tgLeaf (gC (.int 1))) tgNil))) tgNil))) (tgCons (tgLst (tgCons (tgLeaf (gC (.bl true))) (tgCons (tgLst (tgCons (tgLeaf (gC (.int 2))) (tgCons (tgLeaf (gC (.int 1))) tgNil))) tgNil))) (tgCons (tgLst (tgCons (tgLeaf (gC (.bl false))) (tgCons (tgLst (tgCons (tgLeaf (gC (.int 2))) (tgCons (tgLeaf (gC (.int 2))) tgNil))) tgNil))) tgNil))))) gNext)
 (gSeq (gIf (gB (g2 dGe (g2 dIx (gLook 1) (gC (.int 0))) (gC (.int 4)))) (gSeq (gAsg (g2 dMod (gCall fInt (VL.gCons (g2 dIx (gLook 1) (gC (.int 3))) VL.gNil)) (gCall fLen (VL.gCons (gAlt (gView (gpVar 5)) (gVar 5)) VL.gNil))) (fName 6))
 (gPSet (gpIx (gpVar 5) (gLook 6)) (gC (.int 0)) (tgLeaf (gBl (gNot (gB (gLeafP (gpIx (gpIx (gpVar 5) (gLook 6)) (gC (.int 0)))))))))) gNext)
 (gFrzT 5 (gRet (gVar 5)))))))))))

def m__law_states (A : Ad) : List D → Option Res := mOf 1 7 (g__law_states A)

def g__law_takes (A : Ad) : GS :=
 (gSeq (gAsg (gC (.int 0)) (fName 2))
 (gSeq (gFor (gIt (gVar 1)) (fName 3) (gAsg (g2 dIx (g2 dIx (g2 dIx (gLook 0) (gLook 2)) (gC (.int 1))) (g2 dIdxS (gC (.str "ab")) (gLook 3))) (fName 2)))
 (gRet (g2 dIx (g2 dIx (gLook 0) (gLook 2)) (gC (.int 0))))))

def m__law_takes (A : Ad) : List D → Option Res := mOf 2 4 (g__law_takes A)

def g__law_classes (A : Ad) : GS :=
 (gSeq (gAsg (gL (gLc (gIt (gVar 0)) (fName 4) gYes (gCall fInt (VL.gCons (g2 dIx (gLook 4) (gC (.int 0))) VL.gNil)) [4])) (fName 1))
 (gSeq (gFor (gRg1 (VL.gCons (g2 dAdd (gCall fLen (VL.gCons (gLook 0) VL.gNil)) (gC (.int 1))) VL.gNil)) (fName 2) (gSeq (gAsg (gL (gLc (gRg1 (VL.gCons (gCall fLen (VL.gCons (gLook 0) VL.gNil)) VL.gNil)) (fName 5) gYes (VL.gTup (VL.gCons (g2 dIx (gLook 1) (gLook 5)) (VL.gCons (g2 dIx (gLook 1) (g2 dIx (g2 dIx (g2 dIx (gLook 0) (gLook 5)) (gC (.int 1))) (gC (.int 0)))) (VL.gCons (g2 dIx (gLook 1) (g2 dIx (g2 dIx (g2 dIx (gLook 0) (gLook 5)) (gC (.int 1))) (gC (.int 1)))) VL.gNil)))) [5])) (fName 3))
 (gAsg (gL (gLc (gIt (gVar 3)) (fName 6) gYes (g2 dIdxD (gLook 3) (gLook 6)) [6])) (fName 1))))
 (gRet (gVar 1))))

def m__law_classes (A : Ad) : List D → Option Res := mOf 1 7 (g__law_classes A)

def g__law_belongs (A : Ad) : GS :=
 (gSeq (gAsg (g2 dFdiv (gCall fLen (VL.gCons (gLook 0) VL.gNil)) (gC (.int 2))) (fName 1))
 (gRet (g2 dEq (gLook 0) (g2 dAdd (g2 dMul (gC (.str "a")) (gLook 1)) (g2 dMul (gC (.str "b")) (gLook 1))))))

def m__law_belongs (A : Ad) : List D → Option Res := mOf 1 2 (g__law_belongs A)

def g__law_says (A : Ad) : GS :=
 (gSeq (gAsg (gFn (m_in_same_counts A) (VL.gCons (gVar 0) VL.gNil)) (fName 1))
 (gRet (gBl (gAnd (gB (gIsi "bool" (gLook 1))) (gB (g2 dEq (gLook 1) (gFn (m__law_belongs A) (VL.gCons (gLook 0) VL.gNil))))))))

def m__law_says (A : Ad) : List D → Option Res := mOf 1 2 (g__law_says A)

def g__law_differs (A : Ad) : GS :=
 (gSeq (gTryG 0 A.C_AlphabetsDiffer (yExpr (gCallR (m_beat_same_counts A) (VL.gCons (gMake A.C_Automaton (i_Automaton A) (VL.gCons (gC (.str "abc")) (VL.gCons (gL (gLen (VL.gCons (VL.gTup (VL.gCons (gC (.bl true)) (VL.gCons (gL (gLen (VL.gCons (gC (.int 0)) (VL.gCons (gC (.int 0)) (VL.gCons (gC (.int 0)) VL.gNil))))) VL.gNil))) VL.gNil))) VL.gNil))) VL.gNil))) (gRet (gBl (gAnd (gB (gIsX 0 A.C_AlphabetsDiffer true)) (gB (gBl (gAnd (gB (g2 dEq (gXf 0 A.C_AlphabetsDiffer "one") (gC (.str "abc")))) (gB (g2 dEq (gXf 0 A.C_AlphabetsDiffer "two") (gC (.str "ab")))))))))))
 (gRet (gC (.bl false))))

def m__law_differs (A : Ad) : List D → Option Res := mOf 0 1 (g__law_differs A)

def g_law (A : Ad) : GS :=
 (gSeq (gAsg (gFn (m__law_states A) (VL.gCons (gVar 0) VL.gNil)) (fName 1))
 (gSeq (gAsg (gFn (m__law_classes A) (VL.gCons (gVar 1) VL.gNil)) (fName 2))
 (gSeq (gAsgN 3 (gLen VL.gNil))
 (gSeq (gAsg (gC (.int 0)) (fName 4))
 (gSeq (gFor (gRg1 (VL.gCons (g2 dAdd (gCall fLen (VL.gCons (gLook 1) VL.gNil)) (gC (.int 1))) VL.gNil)) (fName 5) (gSeq (gIf (gB (g2 dIn (g2 dIx (gLook 2) (gLook 4)) (gLook 3))) gBreak gNext)
 (gSeq (gAppend 3 (g2 dIx (gLook 2) (gLook 4)))
 (gAsg (g2 dIx (g2 dIx (g2 dIx (gLook 1) (gLook 4)) (gC (.int 1))) (gC (.int 0))) (fName 4)))))
 (gSeq (gAsg (g2 dIdxD (gLook 3) (g2 dIx (gLook 2) (gLook 4))) (fName 6))
 (gSeq (gAsg (g2 dAdd (g2 dMul (gC (.str "a")) (gVar 6)) (g2 dMul (gC (.str "b")) (gVar 6))) (fName 7))
 (gSeq (gIf (gTru (gFn (m__law_takes A) (VL.gCons (gLook 1) (VL.gCons (gLook 7) VL.gNil)))) (gAsg (g2 dAdd (g2 dMul (gC (.str "a")) (gCall fLen (VL.gCons (gLook 3) VL.gNil))) (g2 dMul (gC (.str "b")) (gVar 6))) (fName 7)) gNext)
 (gSeq (gAsg (gFn (m_beat_same_counts A) (VL.gCons (gMake A.C_Automaton (i_Automaton A) (VL.gCons (gC (.str "ab")) (VL.gCons (gL (gLc (gIt (gVar 1)) (fName 12) gYes (gL (gItems (gVar 12))) [12])) VL.gNil))) VL.gNil)) (fName 8))
 (gSeq (gIf (gOr (gB (g2 dNe (gFld A.C_Beaten "text" (gLook 8)) (gLook 7))) (gOr (gNot (gTru (gIsi "bool" (gFld A.C_Beaten "taken" (gLook 8))))) (gNot (gTru (gIsi "bool" (gFld A.C_Beaten "belongs" (gLook 8))))))) (gRet (gC (.bl false))) gNext)
 (gSeq (gIf (gOr (gB (g2 dNe (gFld A.C_Beaten "taken" (gLook 8)) (gFn (m__law_takes A) (VL.gCons (gLook 1) (VL.gCons (gLook 7) VL.gNil))))) (gOr (gB (g2 dNe (gFld A.C_Beaten "belongs" (gLook 8)) (gFn (m__law_belongs A) (VL.gCons (gLook 7) VL.gNil)))) (gB (g2 dEq (gFld A.C_Beaten "taken" (gLook 8)) (gFld A.C_Beaten "belongs" (gLook 8)))))) (gRet (gC (.bl false))) gNext)
 (gSeq (gAsg (gFn (m__law_digits A) (VL.gCons (gFn (m__law_cell A) (VL.gCons (gVar 0) (VL.gCons (gC (.int 1)) VL.gNil))) (VL.gCons (gL (gLen (VL.gCons (gC (.int 9)) (VL.gCons (gC (.int 9)) (VL.gCons (gC (.int 3)) (VL.gCons (gC (.int 20)) VL.gNil)))))) VL.gNil))) (fName 9))
 (gSeq (gAsg (gL (gLen (VL.gCons (gVar 7) (VL.gCons (g2 dAdd (g2 dMul (gC (.str "a")) (gCall fInt (VL.gCons (g2 dIx (gLook 9) (gC (.int 0))) VL.gNil))) (g2 dMul (gC (.str "b")) (gCall fInt (VL.gCons (g2 dIx (gLook 9) (gC (.int 1))) VL.gNil)))) (VL.gCons (gC (.str "")) (VL.gCons (g2 dMul (gC (.str "ab")) (gCall fInt (VL.gCons (g2 dIx (gLook 9) (gC (.int 2))) VL.gNil))) (VL.gCons (gC (.str "ba")) (VL.gCons (gC (.str "aB")) (VL.gCons (gC (.str "a b")) (VL.gCons (gC (.str "abc")) (VL.gCons (gC (.str "aa")) (VL.gCons (gC (.str "bb")) VL.gNil)))))))))))) (fName 10))
 (gSeq (gFor (gIt (gVar 10)) (fName 11) (gIf (gOr (gNot (gTru (gFn (m__law_says A) (VL.gCons (gLook 11) VL.gNil)))) (gNot (gTru (gFn (m__law_says A) (VL.gCons (g2 dAdd (g2 dAdd (g2 dMul (gC (.str "a")) (gCall fInt (VL.gCons (g2 dIx (gLook 9) (gC (.int 3))) VL.gNil))) (gLook 11)) (g2 dMul (gC (.str "b")) (gCall fInt (VL.gCons (g2 dIx (gLook 9) (gC (.int 3))) VL.gNil)))) VL.gNil))))) (gRet (gC (.bl false))) gNext))
 (gRet (gFn (m__law_differs A) VL.gNil))))))))))))))))

def m_law (A : Ad) : List D → Option Res := mOf 1 13 (g_law A)

end K77
end

section
/-! K77P: rows without repeats, refinements, the first repeat of a row: no program in sight. -/
namespace K77
open PySem PySem.Spec PyProof.Rows L2 VL
section
variable {α β γ : Type} [DecidableEq α] [DecidableEq β] [DecidableEq γ]
/-- each once, in the order of the first places -/
def dd (xs : List α) : List α := xs.foldl kIns []
theorem dd_snoc (xs : List α) (x : α) : dd (xs ++ [x]) = kIns (dd xs) x := by unfold dd; rw [List.foldl_append]; rfl
theorem snoc_ind {P : List α → Prop} (h0 : P []) (h1 : ∀ xs x, P xs → P (xs ++ [x])) : ∀ xs, P xs := by
  have key : ∀ (ys xs : List α), P xs → P (xs ++ ys) := by
    intro ys
    induction ys with
    | nil => intro xs h; rw [List.append_nil]; exact h
    | cons y ys ih =>
      intro xs h
      have := ih (xs ++ [y]) (h1 xs y h)
      rwa [List.append_assoc, List.singleton_append] at this
  intro xs
  exact key xs [] h0
theorem dd_mem {x : α} {xs : List α} : x ∈ dd xs ↔ x ∈ xs := by
  have key : ∀ xs : List α, x ∈ dd xs ↔ x ∈ xs := by
    refine snoc_ind ?_ ?_
    · simp [dd]
    · intro xs y ih
      rw [dd_snoc, kIns_mem, ih]; simp
  exact key xs
theorem dd_nodup : ∀ xs : List α, (dd xs).Nodup := by
  refine snoc_ind ?_ ?_
  · simp [dd]
  · intro xs y ih
    rw [dd_snoc]; exact kIns_nodup ih
theorem dd_len : ∀ xs : List α, (dd xs).length ≤ xs.length := by
  refine snoc_ind ?_ ?_
  · simp [dd]
  · intro xs y ih
    rw [dd_snoc]
    unfold kIns
    split
    · simp; omega
    · simp; omega
/-- a finer look sees at least as many; if as many, it sees the same -/
theorem vcount {f : α → β} {g : α → γ} : ∀ S : List α, (∀ s ∈ S, ∀ t ∈ S, g s = g t → f s = f t) → (dd (S.map f)).length ≤ (dd (S.map g)).length ∧ ((dd (S.map g)).length ≤ (dd (S.map f)).length → ∀ s ∈ S, ∀ t ∈ S, f s = f t → g s = g t) := by
  refine snoc_ind ?_ ?_
  · intro _; exact ⟨Nat.le_refl _, fun _ s hs => absurd hs (List.not_mem_nil)⟩
  · intro S x ih h
    obtain ⟨h1, h2⟩ := ih fun s hs t ht => h s (List.mem_append_left _ hs) t (List.mem_append_left _ ht)
    have hx : x ∈ S ++ [x] := by simp
    rw [List.map_append, List.map_append, List.map_singleton, List.map_singleton, dd_snoc, dd_snoc]
    by_cases hg : g x ∈ dd (S.map g)
    · obtain ⟨s0, hs0, e0⟩ := List.mem_map.mp (dd_mem.mp hg)
      have hf : f x ∈ dd (S.map f) := dd_mem.mpr (List.mem_map.mpr ⟨s0, hs0, h s0 (List.mem_append_left _ hs0) x hx e0⟩)
      rw [show kIns (dd (S.map g)) (g x) = dd (S.map g) from if_pos hg, show kIns (dd (S.map f)) (f x) = dd (S.map f) from if_pos hf]
      refine ⟨h1, fun hl => ?_⟩
      have ih2 := h2 hl
      have fs0 : f s0 = f x := h s0 (List.mem_append_left _ hs0) x hx e0
      intro s hs t ht e
      rcases List.mem_append.mp hs with hs' | hs' <;> rcases List.mem_append.mp ht with ht' | ht'
      · exact ih2 s hs' t ht' e
      · have q : t = x := by simpa using ht'
        rw [q] at e ⊢
        exact (ih2 s hs' s0 hs0 (e.trans fs0.symm)).trans e0
      · have q : s = x := by simpa using hs'
        rw [q] at e ⊢
        exact e0.symm.trans (ih2 s0 hs0 t ht' (fs0.trans e))
      · have q1 : s = x := by simpa using hs'
        have q2 : t = x := by simpa using ht'
        rw [q1, q2]
    · rw [show kIns (dd (S.map g)) (g x) = dd (S.map g) ++ [g x] from if_neg hg]
      by_cases hf : f x ∈ dd (S.map f)
      · rw [show kIns (dd (S.map f)) (f x) = dd (S.map f) from if_pos hf]
        refine ⟨by simp; omega, fun hl => ?_⟩
        simp at hl
        omega
      · rw [show kIns (dd (S.map f)) (f x) = dd (S.map f) ++ [f x] from if_neg hf]
        refine ⟨by simp; omega, fun hl => ?_⟩
        have ih2 := h2 (by simp at hl; omega)
        intro s hs t ht e
        rcases List.mem_append.mp hs with hs' | hs' <;> rcases List.mem_append.mp ht with ht' | ht'
        · exact ih2 s hs' t ht' e
        · have q : t = x := by simpa using ht'
          rw [q] at e
          exact absurd (dd_mem.mpr (List.mem_map.mpr ⟨s, hs', e⟩)) hf
        · have q : s = x := by simpa using hs'
          rw [q] at e
          exact absurd (dd_mem.mpr (List.mem_map.mpr ⟨t, ht', e.symm⟩)) hf
        · have q1 : s = x := by simpa using hs'
          have q2 : t = x := by simpa using ht'
          rw [q1, q2]
/-- where it stands first -/
def pos (x : α) (xs : List α) : Nat := (xs.findIdx? fun y => decide (y = x)).getD 0
theorem pos_at {x : α} {xs : List α} (h : x ∈ xs) : xs[pos x xs]? = some x ∧ xs.findIdx? (fun y => decide (y = x)) = some (pos x xs) := by
  obtain ⟨k, h1, h2⟩ := find_at h
  unfold pos
  rw [h1]
  exact ⟨h2, rfl⟩
theorem pos_inj {x y : α} {xs : List α} (hx : x ∈ xs) (hy : y ∈ xs) (h : pos x xs = pos y xs) : x = y := by
  have h1 := (pos_at hx).1
  have h2 := (pos_at hy).1
  rw [h] at h1
  exact Option.some.inj (h1.symm.trans h2)
theorem pos_app {x : α} {xs ys : List α} (h : x ∈ xs) : pos x (xs ++ ys) = pos x xs := by
  unfold pos
  rw [List.findIdx?_append, (pos_at h).2]; rfl
theorem pos_new {x : α} {xs : List α} (h : x ∉ xs) : pos x (xs ++ [x]) = xs.length := by
  unfold pos
  rw [List.findIdx?_append, find_no h]
  simp
theorem nodup_le : ∀ {l m : List α}, l.Nodup → (∀ x ∈ l, x ∈ m) → l.length ≤ m.length
  | [], _, _, _ => Nat.zero_le _
  | x :: l, m, hn, h => by
    rw [List.nodup_cons] at hn
    have hx := h x (List.mem_cons_self ..)
    have := nodup_le (l := l) (m := m.erase x) hn.2 fun y hy => (List.mem_erase_of_ne (by intro e; rw [e] at hy; exact hn.1 hy)).mpr (h y (List.mem_cons_of_mem _ hy))
    rw [List.length_erase_of_mem hx] at this
    have hp : 0 < m.length := List.length_pos_of_mem hx
    simp
    omega
/-! the first repeat -/
structure Rep (x : Nat → α) (i j : Nat) : Prop where
  lt : j < i
  eq : x i = x j
  no : ∀ a b, a < b → b < i → x a ≠ x b
theorem Rep.of {x : Nat → α} {y : Nat → β} {i j : Nat} (h : Rep x i j) (he : ∀ a b, a ≤ i → b ≤ i → (x a = x b ↔ y a = y b)) : Rep y i j := by
  have := h.lt
  exact ⟨h.lt, (he i j (Nat.le_refl _) (by omega)).mp h.eq, fun a b h1 h2 q => h.no a b h1 h2 ((he a b (by omega) (by omega)).mpr q)⟩
theorem map_nodup {x : Nat → α} : ∀ {i : Nat}, (∀ a b, a < b → b < i → x a ≠ x b) → ((List.range i).map x).Nodup
  | 0, _ => by simp
  | i + 1, h => by
    rw [List.range_succ, List.map_append, List.map_singleton, List.nodup_append]
    refine ⟨map_nodup fun a b h1 h2 => h a b h1 (by omega), by simp, fun u hu w hw e => ?_⟩
    simp at hw
    subst hw
    obtain ⟨a, ha, rfl⟩ := List.mem_map.mp hu
    exact h a i (by simpa using ha) (Nat.lt_succ_self i) e
theorem rep_ex {x : Nat → α} {m : List α} (h : ∀ i, x i ∈ m) : ∃ i j, Rep x i j ∧ i ≤ m.length := by
  have key : ∀ i, (∃ i' j, Rep x i' j ∧ i' ≤ i) ∨ ∀ a b, a < b → b ≤ i → x a ≠ x b := by
    intro i
    induction i with
    | zero => exact .inr fun a b h1 h2 => by omega
    | succ i ih =>
      rcases ih with ⟨i', j, r, h1⟩ | ih
      · exact .inl ⟨i', j, r, by omega⟩
      · by_cases q : ∃ j, j < i + 1 ∧ x (i + 1) = x j
        · obtain ⟨j, h1, h2⟩ := q
          exact .inl ⟨i + 1, j, ⟨h1, h2, fun a b ha hb => ih a b ha (by omega)⟩, Nat.le_refl _⟩
        · refine .inr fun a b ha hb e => ?_
          by_cases hb2 : b ≤ i
          · exact ih a b ha hb2 e
          · have : b = i + 1 := by omega
            subst this
            exact q ⟨a, ha, e.symm⟩
  rcases key m.length with ⟨i, j, r, h1⟩ | q
  · exact ⟨i, j, r, h1⟩
  · have hn := map_nodup (x := x) (i := m.length + 1) fun a b h1 h2 => q a b h1 (by omega)
    have := nodup_le hn (m := m) fun u hu => by
      obtain ⟨a, _, rfl⟩ := List.mem_map.mp hu
      exact h a
    simp at this
    omega
end
/-! states -/
abbrev St := Bool × List Nat
def ac (ss : List St) (s : Nat) : Bool := (ss.getD s (false, [])).1
def tg (ss : List St) (s : Nat) : List Nat := (ss.getD s (false, [])).2
/-- m letters; the targets are states -/
structure Net (m : Nat) (ss : List St) : Prop where
  ml : m ≤ 26
  ne : 0 < ss.length
  few : ss.length ≤ 100
  len : ∀ s, s < ss.length → (tg ss s).length = m
  tgt : ∀ s, s < ss.length → ∀ t ∈ tg ss s, t < ss.length
theorem at_st {ss : List St} {s : Nat} (h : s < ss.length) : ss[s]? = some (ac ss s, tg ss s) := by
  unfold ac tg
  rw [List.getD_eq_getElem?_getD, List.getElem?_eq_getElem h]; rfl
/-- the two read the same with at most j letters -/
def Eq' (ss : List St) : Nat → Nat → Nat → Prop
  | 0, s, t => ac ss s = ac ss t
  | j + 1, s, t => Eq' ss j s t ∧ ∀ (i : Nat) a b, (tg ss s)[i]? = some a → (tg ss t)[i]? = some b → Eq' ss j a b
def Bis (ss : List St) (s t : Nat) : Prop := ∀ j, Eq' ss j s t
theorem eq_refl (ss : List St) : ∀ j s, Eq' ss j s s
  | 0, _ => rfl
  | j + 1, s => ⟨eq_refl ss j s, fun i a b h1 h2 => by rw [h1] at h2; cases h2; exact eq_refl ss j a⟩
theorem eq_sub {ss : List St} {s t : Nat} : ∀ {j k : Nat}, j ≤ k → Eq' ss k s t → Eq' ss j s t := by
  intro j k h
  induction k with
  | zero => intro q; rw [Nat.le_zero.mp h]; exact q
  | succ k ih =>
    intro q
    by_cases e : j = k + 1
    · rw [e]; exact q
    · exact ih (by omega) q.1
/-- if one turn more tells nothing new among S, no turn does -/
theorem stable {ss : List St} {S : List Nat} (hc : ∀ s ∈ S, ∀ t ∈ tg ss s, t ∈ S) {j : Nat} (h : ∀ s ∈ S, ∀ t ∈ S, Eq' ss j s t → Eq' ss (j + 1) s t) : ∀ s ∈ S, ∀ t ∈ S, Eq' ss j s t → Bis ss s t := by
  have key : ∀ k, ∀ s ∈ S, ∀ t ∈ S, Eq' ss j s t → Eq' ss (j + k) s t := by
    intro k
    induction k with
    | zero => exact fun s _ t _ q => q
    | succ k ih =>
      intro s hs t ht q
      have q1 := h s hs t ht q
      refine ⟨ih s hs t ht q, fun i a b h1 h2 => ?_⟩
      exact ih a (hc s hs a (List.mem_of_getElem? h1)) b (hc t ht b (List.mem_of_getElem? h2)) (q1.2 i a b h1 h2)
  intro s hs t ht q k
  exact eq_sub (Nat.le_add_left k j) (key k s hs t ht q)
theorem bis_ac {ss : List St} {s t : Nat} (h : Bis ss s t) : ac ss s = ac ss t := h 0
theorem bis_tg {ss : List St} {s t : Nat} (h : Bis ss s t) {i a b : Nat} (h1 : (tg ss s)[i]? = some a) (h2 : (tg ss t)[i]? = some b) : Bis ss a b := fun j => (h (j + 1)).2 i a b h1 h2
/-- a finer numbering -/
theorem key_iff {m : Nat} {ss : List St} (n : Net m ss) {j : Nat} {c : Nat → Nat} {S : List Nat} (hS : ∀ s ∈ S, s < ss.length) (hc : ∀ s ∈ S, ∀ t ∈ tg ss s, t ∈ S) (h : ∀ s ∈ S, ∀ t ∈ S, (c s = c t ↔ Eq' ss j s t)) {s t : Nat} (hs : s ∈ S) (ht : t ∈ S) :
    (c s, (tg ss s).map c) = (c t, (tg ss t).map c) ↔ Eq' ss (j + 1) s t := by
  constructor
  · intro q
    have q1 := congrArg Prod.fst q
    have q2 := congrArg Prod.snd q
    refine ⟨(h s hs t ht).mp q1, fun i a b h1 h2 => ?_⟩
    have e1 : ((tg ss s).map c)[i]? = some (c a) := by rw [List.getElem?_map, h1]; rfl
    have e2 : ((tg ss t).map c)[i]? = some (c b) := by rw [List.getElem?_map, h2]; rfl
    have q3 : (tg ss s).map c = (tg ss t).map c := q2
    rw [q3, e2] at e1
    exact (h a (hc s hs a (List.mem_of_getElem? h1)) b (hc t ht b (List.mem_of_getElem? h2))).mp (Option.some.inj e1).symm
  · rintro ⟨q1, q2⟩
    refine Prod.ext ((h s hs t ht).mpr q1) ?_
    have l1 := n.len s (hS s hs)
    have l2 := n.len t (hS t ht)
    apply List.ext_getElem?
    intro i
    rw [List.getElem?_map, List.getElem?_map]
    cases e1 : (tg ss s)[i]? with
    | none =>
      have e2 : (tg ss t)[i]? = none := by rw [List.getElem?_eq_none_iff] at e1 ⊢; omega
      rw [e2]
    | some a =>
      have hi : i < (tg ss t).length := by have := (List.getElem?_eq_some_iff.mp e1).1; omega
      have e2 : (tg ss t)[i]? = some (tg ss t)[i] := List.getElem?_eq_getElem hi
      rw [e2]
      show some (c a) = some (c (tg ss t)[i])
      rw [(h a (hc s hs a (List.mem_of_getElem? e1)) _ (hc t ht _ (List.mem_of_getElem? e2))).mpr (q2 i a _ e1 e2)]
end K77
end

section
/-! K77Q: the states that are reached; their classes. -/
namespace K77
open PySem PySem.Spec PyProof.Rows L2 VL
variable (A : Ad)
theorem kem_nat : KEm false nD (fun k : Nat => NestedKey.num k) where
  kk := fun _ => rfl
  inj := fun a b h => by
    have : (a : Int) = b := NestedKey.num.inj h
    omega
abbrev Ky := Nat × List Nat
abbrev kyD (k : Ky) : D := .tup [nD k.1, .tup (k.2.map nD)]
theorem nkL_nat : ∀ cs : List Nat, D.nkL (cs.map nD) = some (cs.map fun c : Nat => NestedKey.num c)
  | [] => rfl
  | c :: cs => by
    rw [List.map_cons]
    unfold D.nkL
    rw [nkL_nat cs]; rfl
theorem dep_nat : ∀ cs : List Nat, NestedKey.depthAll (cs.map fun c : Nat => NestedKey.num c) = 0
  | [] => rfl
  | c :: cs => by
    show max 0 (NestedKey.depthAll (cs.map fun c : Nat => NestedKey.num c)) = 0
    rw [dep_nat cs]; rfl
def kyK (k : Ky) : NestedKey := .tup [.num k.1, .tup (k.2.map fun c : Nat => NestedKey.num c)]
theorem kem_ky : KEm true kyD kyK where
  kk := fun k => by
    show (match (D.nkL [nD k.1, .tup (k.2.map nD)]).map NestedKey.tup with | some k => if k.depth ≤ 8 then some k else none | none => none) = _
    have e1 : D.nkL [nD k.1, .tup (k.2.map nD)] = some [.num (k.1 : Nat), .tup (k.2.map fun c : Nat => NestedKey.num c)] := by
      unfold D.nkL
      have e2 : (D.tup (k.2.map nD)).nk = some (.tup (k.2.map fun c : Nat => NestedKey.num c)) := by
        show (D.nkL (k.2.map nD)).map NestedKey.tup = _
        rw [nkL_nat]; rfl
      have e3 : D.nkL [D.tup (k.2.map nD)] = some [.tup (k.2.map fun c : Nat => NestedKey.num c)] := by
        unfold D.nkL
        rw [e2]; rfl
      rw [e3]; rfl
    rw [e1]
    refine if_pos ?_
    show max 0 (max (NestedKey.depthAll (k.2.map fun c : Nat => NestedKey.num c) + 1) 0) + 1 ≤ 8
    rw [dep_nat]; decide
  inj := fun a b h => by
    have h1 := NestedKey.tup.inj h
    have h2 := (List.cons.inj h1).1
    have h3 := (List.cons.inj (List.cons.inj h1).2).1
    have h4 := NestedKey.tup.inj h3
    have h5 : a.2 = b.2 := (List.map_inj_right (fun x y q => by have : (x : Int) = y := NestedKey.num.inj q; omega)).mp h4
    have h6 : a.1 = b.1 := by have : (a.1 : Int) = b.1 := NestedKey.num.inj h2; omega
    exact Prod.ext h6 h5
theorem nat_notIn (x : Nat) (S : List Nat) (w : Nat → D) : dNotIn (nD x) (dD false nD S w) = some (.bl (!decide (x ∈ S))) := by
  rw [dNotIn_get kem_nat]
  try congr 4
theorem ky_notIn (x : Ky) (S : List Ky) (w : Ky → D) : dNotIn (kyD x) (dD true kyD S w) = some (.bl (!decide (x ∈ S))) := by
  rw [dNotIn_get kem_ky]
  try congr 4
theorem fUp_is {α : Type} [DecidableEq α] {w : α → D} {a : α} {d : D} (h : w a = d) : fUp w a d = w := by
  funext x
  unfold fUp
  split
  · rename_i e; rw [e, h]
  · rfl
abbrev rowD (s : St) : D := .tup [.bl s.1, .tup (s.2.map nD)]
variable {m : Nat} {ss : List St}
theorem e_row {c : VL.Env} {ga gk : GE} {s : Nat} (h1 : ga c = some (.lst (ss.map rowD))) (h2 : gk c = some (nD s)) (hs : s < ss.length) : VL.g2 dIx ga gk c = some (rowD (ac ss s, tg ss s)) := e_2 h1 h2 (ix_map rfl (at_st hs))
theorem e_tg {c : VL.Env} {ga gk : GE} {s : Nat} (h1 : ga c = some (.lst (ss.map rowD))) (h2 : gk c = some (nD s)) (hs : s < ss.length) : VL.g2 dIx (VL.g2 dIx ga gk) (gC (.int 1)) c = some (.tup ((tg ss s).map nD)) := e_2 (e_row h1 h2 hs) rfl rfl
theorem e_ac {c : VL.Env} {ga gk : GE} {s : Nat} (h1 : ga c = some (.lst (ss.map rowD))) (h2 : gk c = some (nD s)) (hs : s < ss.length) : VL.g2 dIx (VL.g2 dIx ga gk) (gC (.int 0)) c = some (.bl (ac ss s)) := e_2 (e_row h1 h2 hs) rfl rfl
structure Ord (ss : List St) (xs : List Nat) : Prop where
  nd : xs.Nodup
  hd : xs[0]? = some 0
  lt : ∀ s ∈ xs, s < ss.length
  cl : ∀ s ∈ xs, ∀ t ∈ tg ss s, t ∈ xs
theorem lt_range {xs : List Nat} {n : Nat} (hn : xs.Nodup) (h : ∀ s ∈ xs, s < n) : xs.length ≤ n := by
  have := nodup_le hn (m := List.range n) fun s hs => by simpa using h s hs
  simpa using this
theorem reached_run (n : Net m ss) : ∃ ord : List Nat, m_reached_states A [.lst (ss.map rowD)] = some (.val (.lst (ord.map nD))) ∧ Ord ss ord := by
  have key : ∃ d, m_reached_states A [.lst (ss.map rowD)] = some (.val d) ∧ ∃ ord : List Nat, d = .lst (ord.map nD) ∧ Ord ss ord := by
    refine m_ex rfl ?_
    have hs : 1000000 ≤ sizeLine := by unfold sizeLine; omega
    have hf := n.few
    refine wp_seq (wp_asgN (ds := [0].map nD) rfl ?_)
    refine wp_seq (wp_asgT (t := dT false nD [0] fun _ => .bl true) (e_d1 kem_nat (a := 0) rfl rfl) ?_)
    refine wp_seq (wp_set (d := nD 0) rfl ?_)
    let E : List Nat → Nat → Option Cell → VL.Env := fun xs j y4 => [some (.fz (.lst (ss.map rowD))), some (.own (xs.map nD)), some (.tre none (dT false nD xs fun _ => .bl true)), some (.fz (nD j)), y4]
    refine wp_seq (wp_while (fun c k => ∃ (xs : List Nat) (j : Nat) (y4 : Option Cell), c = E xs j y4 ∧ k + j = ss.length ∧ j ≤ xs.length ∧ xs.Nodup ∧ xs[0]? = some 0 ∧ (∀ s ∈ xs, s < ss.length) ∧ ∀ s ∈ xs.take j, ∀ t ∈ tg ss s, t ∈ xs) (m := ss.length) ?_ ?_ ?_)
    · show ss.length < 1000
      omega
    · exact ⟨[0], 0, none, rfl, rfl, by simp, by simp, rfl, by intro s hs; simp at hs; rw [hs]; exact n.ne, by simp⟩
    · rintro c k ⟨xs, j, y4, rfl, hk, hj, hnd, hhd, hlt, hcl⟩
      have hxl := lt_range hnd hlt
      refine ⟨decide (j < xs.length), ?_, fun hb => ?_, fun hb => ?_⟩
      · refine e_B (e_2 rfl (e_lenM (xs := xs) (e := nD) rfl) ?_)
        show some (D.bl (decide ((j : Int) < (xs.length : Nat)))) = _
        simp
      · have hjl : j < xs.length := of_decide_eq_true hb
        have hxj : xs[j]? = some xs[j] := List.getElem?_eq_getElem hjl
        generalize hs0 : xs[j] = s0 at hxj
        have hs0m : s0 ∈ xs := hs0 ▸ List.getElem_mem _
        have hs0l := hlt s0 hs0m
        refine wp_seq (wp_for (ds := (tg ss s0).map nD) (e_items (d := .tup ((tg ss s0).map nD)) (e_tg rfl (e_2 rfl rfl (ix_map rfl hxj)) hs0l) rfl) ?_)
        refine wpl_all (fun (done : List Nat) c => ∃ (ys : List Nat) (y4 : Option Cell), c = E ys j y4 ∧ ys.Nodup ∧ ys[0]? = some 0 ∧ (∀ s ∈ ys, s < ss.length) ∧ (∃ r, ys = xs ++ r) ∧ ∀ t ∈ done, t ∈ ys) ⟨xs, y4, rfl, hnd, hhd, hlt, ⟨[], by simp⟩, by simp⟩ ?_ ?_
        · rintro done t rest c q ⟨ys, y4, rfl, hnd', hhd', hlt', ⟨r, hr⟩, hd⟩
          refine ⟨_, rfl, ?_⟩
          have ht : t ∈ tg ss s0 := by rw [q]; simp
          have hyl := lt_range hnd' hlt'
          refine wp_if (b := !decide (t ∈ ys)) (e_B (e_2 rfl (e_viewA (e := nD) (xs := ys) (w := fun _ => .bl true) rfl) (nat_notIn _ _ _))) (fun hb2 => ?_) (fun hb2 => wp_next ?_)
          · have hni : t ∉ ys := by simpa using hb2
            have hki : kIns ys t = ys ++ [t] := if_neg hni
            refine wp_seq (wp_put (e := nD) (xs := ys) (w := fun _ => .bl true) (a := t) (d := .bl true) kem_nat hnd' rfl rfl (e_leaf rfl) (by omega) ?_)
            rw [fUp_is rfl, hki]
            refine wp_append (ds := ys.map nD) (d := nD t) rfl rfl (by rw [List.length_map]; omega) ?_
            refine ⟨ys ++ [t], some (.fz (nD t)), ?_, by rw [← hki]; exact kIns_nodup hnd', ?_, ?_, ⟨r ++ [t], by rw [hr, List.append_assoc]⟩, ?_⟩
            · simp only [E]
              rw [show (ys ++ [t]).map nD = ys.map nD ++ [nD t] by simp]; rfl
            · have := (List.getElem?_eq_some_iff.mp hhd').1
              rw [List.getElem?_append_left this]; exact hhd'
            · intro s hs
              rcases List.mem_append.mp hs with h | h
              · exact hlt' s h
              · simp at h; rw [h]; exact n.tgt s0 hs0l t ht
            · intro z hz
              rcases List.mem_append.mp hz with h | h
              · exact List.mem_append_left _ (hd z h)
              · simp at h; rw [h]; simp
          · refine ⟨ys, some (.fz (nD t)), rfl, hnd', hhd', hlt', ⟨r, hr⟩, ?_⟩
            intro z hz
            rcases List.mem_append.mp hz with h | h
            · exact hd z h
            · simp at h hb2; rw [h]; exact hb2
        · rintro c ⟨ys, y4, rfl, hnd', hhd', hlt', ⟨r, hr⟩, hd⟩
          have hyj : j < ys.length := by rw [hr, List.length_append]; omega
          refine wp_set (d := nD (j + 1)) rfl ⟨k - 1, by omega, ys, j + 1, _, rfl, by omega, hyj, hnd', hhd', hlt', ?_⟩
          intro s hs t ht
          have e : ys[j]? = some s0 := by rw [hr, List.getElem?_append_left hjl]; exact hxj
          rw [List.take_add_one, e, hr, List.take_append_of_le_length (by omega)] at hs
          rcases List.mem_append.mp hs with h | h
          · rw [hr]; exact List.mem_append_left _ (hcl s h t ht)
          · simp at h
            rw [h] at ht
            exact hd t ht
      · have hjl : ¬ j < xs.length := of_decide_eq_false hb
        refine wp_ret (d := .lst (xs.map nD)) rfl ⟨_, rfl, xs, rfl, hnd, hhd, hlt, fun s hs => hcl s (by rw [List.take_of_length_le (by omega)]; exact hs)⟩
  obtain ⟨d, h1, ord, rfl, h2⟩ := key
  exact ⟨ord, h1, h2⟩
theorem dd_pre {α : Type} [DecidableEq α] (xs : List α) : ∀ ys : List α, ∃ r, dd (xs ++ ys) = dd xs ++ r := by
  refine snoc_ind ?_ ?_
  · exact ⟨[], by simp⟩
  · rintro ys y ⟨r, hr⟩
    rw [← List.append_assoc, dd_snoc, hr]
    unfold kIns
    split
    · exact ⟨r, rfl⟩
    · exact ⟨r ++ [y], by rw [List.append_assoc]⟩
theorem classes_run (n : Net m ss) {ord : List Nat} (o : Ord ss ord) : ∃ f : Nat → Nat, m_classes_of A [.lst (ss.map rowD), .lst (ord.map nD)] = some (.val (dD false nD ord fun s => nD (f s))) ∧ ∀ s ∈ ord, ∀ t ∈ ord, (f s = f t ↔ Bis ss s t) := by
  have key : ∃ d, m_classes_of A [.lst (ss.map rowD), .lst (ord.map nD)] = some (.val d) ∧ ∃ f : Nat → Nat, d = (dD false nD ord fun s => nD (f s)) ∧ ∀ s ∈ ord, ∀ t ∈ ord, (f s = f t ↔ Bis ss s t) := by
    refine m_ex rfl ?_
    have hs : 1000000 ≤ sizeLine := by unfold sizeLine; omega
    have hf := n.few
    have hol := lt_range o.nd o.lt
    have hop : 0 < ord.length := (List.getElem?_eq_some_iff.mp o.hd).1
    have h0m : 0 ∈ ord := List.mem_of_getElem? o.hd
    refine wp_seq (wp_asgT (t := dT false nD ord fun s => nD (if ac ss s then 1 else 0)) (e_dc kem_nat (xs := ord) (e_items (d := .lst (ord.map nD)) rfl rfl) o.nd (by omega) fun s hs' => ⟨_, rfl, rfl, e_leaf ?_⟩) ?_)
    · refine e_call (e_cons (e_ac (s := s) rfl rfl (o.lt s hs')) rfl) ?_
      cases ac ss s <;> rfl
    refine wp_seq (wp_set (d := nD 0) rfl ?_)
    let E : (Nat → Nat) → Nat → Option Cell → Option Cell → Option Cell → Option Cell → VL.Env := fun cl cnt y4 y5 y6 y7 => [some (.fz (.lst (ss.map rowD))), some (.fz (.lst (ord.map nD))), some (.tre none (dT false nD ord fun s => nD (cl s))), some (.fz (nD cnt)), y4, y5, y6, y7, none]
    refine wp_while (fun c k => ∃ (j : Nat) (cl : Nat → Nat) (cnt : Nat) (y4 y5 y6 y7 : Option Cell), c = E cl cnt y4 y5 y6 y7 ∧ (∀ s ∈ ord, ∀ t ∈ ord, (cl s = cl t ↔ Eq' ss j s t)) ∧ k + cnt = ord.length ∧ (cnt = 0 ∨ cnt = (dd (ord.map cl)).length)) (m := ord.length) ?_ ?_ ?_
    · show ord.length < 1000
      omega
    · refine ⟨0, fun s => if ac ss s then 1 else 0, 0, none, none, none, none, rfl, fun s _ t _ => ?_, rfl, .inl rfl⟩
      show (if ac ss s then 1 else 0) = (if ac ss t then 1 else 0) ↔ ac ss s = ac ss t
      cases ac ss s <;> cases ac ss t <;> simp
    · rintro c k ⟨j, cl, cnt, y4, y5, y6, y7, rfl, hcl, hk, hcnt⟩
      refine ⟨true, rfl, fun _ => ?_, fun h => nomatch h⟩
      let ky : Nat → Ky := fun s => (cl s, (tg ss s).map cl)
      have hky : ∀ s, ky s = (cl s, (tg ss s).map cl) := fun _ => rfl
      have hkey : ∀ s ∈ ord, ∀ t ∈ ord, (ky s = ky t ↔ Eq' ss (j + 1) s t) := fun s hs t ht => key_iff n o.lt o.cl hcl hs ht
      generalize hKK : dd (ord.map ky) = KK
      have hKKn : KK.Nodup := hKK ▸ dd_nodup _
      have hKKl : KK.length ≤ ord.length := by rw [← hKK]; exact Nat.le_trans (dd_len _) (by simp)
      have hin : ∀ s ∈ ord, ky s ∈ KK := fun s hs => by rw [← hKK]; exact dd_mem.mpr (List.mem_map.mpr ⟨s, hs, rfl⟩)
      refine wp_seq (wp_asgT (t := dT true kyD ([] : List Ky) fun k => nD (pos k KK)) rfl ?_)
      refine wp_seq (wp_asgT (t := dT false nD ([] : List Nat) fun s => nD (pos (ky s) KK)) rfl ?_)
      refine wp_seq (wp_for (ds := ord.map nD) (e_items (d := .lst (ord.map nD)) rfl rfl) ?_)
      refine wpl_all (fun (done : List Nat) c => ∃ (y6 y7 : Option Cell), c = E cl cnt (some (.tre none (dT true kyD (dd (done.map ky)) fun k => nD (pos k KK)))) (some (.tre none (dT false nD done fun s => nD (pos (ky s) KK)))) y6 y7) ⟨y6, y7, rfl⟩ ?_ ?_
      · rintro done s rest c q ⟨y6, y7, rfl⟩
        refine ⟨_, rfl, ?_⟩
        have hso : s ∈ ord := by rw [q]; simp
        have hsl := o.lt s hso
        have hdn : done.Nodup ∧ s ∉ done := by
          have := o.nd
          rw [q, List.nodup_append] at this
          exact ⟨this.1, fun z => this.2.2 s z s (List.mem_cons_self ..) rfl⟩
        have hdl : done.length < ord.length := by rw [q]; simp
        have hpre : ∃ r, KK = dd ((done ++ [s]).map ky) ++ r := by
          obtain ⟨r, hr⟩ := dd_pre ((done ++ [s]).map ky) (rest.map ky)
          refine ⟨r, ?_⟩
          rw [← hr, ← hKK, q, ← List.map_append]
          try (congr 2; try simp)
        have hsn : dd ((done ++ [s]).map ky) = kIns (dd (done.map ky)) (ky s) := by
          rw [List.map_append, List.map_singleton, dd_snoc]
        have hnn : (dd (done.map ky)).Nodup := dd_nodup _
        have hddl : (dd (done.map ky)).length ≤ done.length := Nat.le_trans (dd_len _) (by simp)
        generalize dd (done.map ky) = Ks at hsn hnn hddl
        have hmem : ∀ t ∈ tg ss s, t ∈ ord := o.cl s hso
        refine wp_seq (wp_set (d := kyD (ky s)) ?_ ?_)
        · refine e_tup (e_cons (e_getA kem_nat (e := nD) (xs := ord) (w := fun s => nD (cl s)) rfl rfl hso) (e_cons (e_call (e_cons (e_lst (e_lc (e := nD) (h := fun t => nD (cl t)) (xs := tg ss s) (e_items (d := .tup ((tg ss s).map nD)) (e_tg (s := s) rfl rfl hsl) rfl) (by have := n.len s hsl; have := n.ml; omega) fun t ht => ⟨_, rfl, e_getA kem_nat (e := nD) (xs := ord) (w := fun s => nD (cl s)) rfl rfl (hmem t ht)⟩)) rfl) (d := .tup (((tg ss s).map cl).map nD)) ?_) rfl)) (by show 2 ≤ sizeLine; omega)
          rw [List.map_map]; rfl
        refine wp_seq (Wp.mono (P := fun o => o = .nx (E cl cnt (some (.tre none (dT true kyD (kIns Ks (ky s)) fun k => nD (pos k KK)))) (some (.tre none (dT false nD done fun s => nD (pos (ky s) KK)))) (some (.fz (nD s))) (some (.fz (kyD (ky s)))))) ?_ ?_)
        · refine wp_if (b := !decide (ky s ∈ Ks)) (e_B (e_2 rfl (e_viewA (e := kyD) (xs := Ks) (w := fun k => nD (pos k KK)) rfl) (ky_notIn _ _ _))) (fun hb => ?_) (fun hb => wp_next ?_)
          · have hni : ky s ∉ Ks := by simpa using hb
            have hki : kIns Ks (ky s) = Ks ++ [ky s] := if_neg hni
            refine wp_put (e := kyD) (xs := Ks) (w := fun k => nD (pos k KK)) (a := ky s) (d := nD Ks.length) kem_ky hnn rfl rfl (e_leaf (e_call (e_cons (e_viewA (e := kyD) (xs := Ks) (w := fun k => nD (pos k KK)) rfl) rfl) ?_)) (by omega) ?_
            · show some (D.int ((Ks.map kyD).length : Nat)) = _
              rw [List.length_map]
            · rw [fUp_is]
              · rfl
              · obtain ⟨r, hr⟩ := hpre
                rw [hr, hsn, hki, pos_app (by simp), pos_new hni]
          · have hm : ky s ∈ Ks := by simpa using hb
            rw [show kIns Ks (ky s) = Ks from if_pos hm]
            rfl
        · rintro o rfl
          refine wp_put (e := nD) (xs := done) (w := fun s => nD (pos (ky s) KK)) (a := s) (d := nD (pos (ky s) KK)) kem_nat hdn.1 rfl rfl (e_leaf (e_getA kem_ky (e := kyD) (xs := kIns Ks (ky s)) (w := fun k => nD (pos k KK)) rfl rfl (kIns_mem.mpr (.inr rfl)))) (by omega) ?_
          rw [fUp_is rfl, show kIns done s = done ++ [s] from if_neg hdn.2, hsn]
          exact ⟨_, _, rfl⟩
      · rintro c ⟨y6, y7, rfl⟩
        rw [hKK]
        have hst := vcount (f := cl) (g := ky) ord (fun s hs t ht e => congrArg Prod.fst e)
        rw [hKK] at hst
        have hlenE : gCall fLen (VL.gCons (gAlt (gView (gpVar 4)) (gVar 4)) VL.gNil) (E cl cnt (some (.tre none (dT true kyD KK fun k => nD (pos k KK)))) (some (.tre none (dT false nD ord fun s => nD (pos (ky s) KK)))) y6 y7) = some (nD KK.length) := by
          refine e_call (e_cons (e_viewA (e := kyD) (xs := KK) (w := fun k => nD (pos k KK)) rfl) rfl) ?_
          show some (D.int ((KK.map kyD).length : Nat)) = _
          rw [List.length_map]
        have hnew : ∀ s ∈ ord, ∀ t ∈ ord, (pos (ky s) KK = pos (ky t) KK ↔ Eq' ss (j + 1) s t) := fun s hs t ht => by
          rw [← hkey s hs t ht]
          exact ⟨pos_inj (hin s hs) (hin t ht), fun e => by rw [e]⟩
        have hKp : 0 < KK.length := List.length_pos_of_mem (hin 0 h0m)
        refine wp_seq (wp_if (b := decide (KK.length = cnt)) (e_B (e_2 hlenE rfl ?_)) (fun hb => ?_) (fun hb => wp_next ?_))
        · have := Emb.int.eq (by decide) ((KK.length : Nat) : Int) (cnt : Int)
          rw [this]
          exact congrArg (fun b => some (D.bl b)) (decide_eq_decide.mpr (by omega))
        · have e : KK.length = cnt := of_decide_eq_true hb
          have hc : cnt = (dd (ord.map cl)).length := by
            rcases hcnt with h | h
            · omega
            · exact h
          have hsame := hst.2 (by omega)
          have hsb : ∀ s ∈ ord, ∀ t ∈ ord, Eq' ss j s t → Eq' ss (j + 1) s t := fun s hs t ht h => (hkey s hs t ht).mp (hsame s hs t ht ((hcl s hs t ht).mpr h))
          have hbis := stable o.cl hsb
          refine wp_frzT (t := dT false nD ord fun s => nD (pos (ky s) KK)) rfl dT_plain ?_
          rw [dT_view]
          refine wp_ret (d := dD false nD ord fun s => nD (pos (ky s) KK)) rfl ⟨_, rfl, fun s => pos (ky s) KK, rfl, fun s hs t ht => ?_⟩
          rw [hnew s hs t ht]
          exact ⟨fun h => hbis s hs t ht h.1, fun h => h (j + 1)⟩
        · have e : ¬ KK.length = cnt := of_decide_eq_false hb
          refine wp_seq (wp_set (d := nD KK.length) hlenE ?_)
          refine wp_mvT rfl ⟨k - (KK.length - cnt), ?_, j + 1, fun s => pos (ky s) KK, KK.length, _, _, _, _, rfl, hnew, ?_, .inr ?_⟩
          · rcases hcnt with h | h <;> omega
          · rcases hcnt with h | h <;> omega
          · have v1 := vcount (f := ky) (g := fun s => pos (ky s) KK) ord (fun s hs t ht e => pos_inj (hin s hs) (hin t ht) e)
            have v2 := vcount (f := fun s => pos (ky s) KK) (g := ky) ord (fun s hs t ht e => by show pos (ky s) KK = pos (ky t) KK; rw [e])
            rw [hKK] at v1 v2
            exact Nat.le_antisymm v1.1 v2.1
  obtain ⟨d, h1, f, rfl, h2⟩ := key
  exact ⟨f, h1, h2⟩
end K77
end

section
/-! K77R: the least form; the automaton. -/
namespace K77
open PySem PySem.Spec PyProof.Rows L2 VL
variable (A : Ad)
variable {m : Nat} {ss : List St}
theorem wp_frzF {g : GS} {c : VL.Env} {P : Out → Prop} {i : Nat} {d : D} (hc : c[i]? = some (some (.fz d))) (h : Wp g c P) : Wp (gFrz i g) c P := by
  have e : frz i c = c := by unfold frz; rw [hc]
  obtain ⟨o, h1, h2⟩ := h
  exact ⟨o, by unfold gFrz; rw [e]; exact h1, h2⟩
theorem wp_frzN {g : GS} {c : VL.Env} {P : Out → Prop} {i : Nat} {ds : List D} (hc : c[i]? = some (some (.own ds))) (h : Wp g (c.set i (some (.fz (.lst ds)))) P) : Wp (gFrz i g) c P := by
  have e : frz i c = c.set i (some (.fz (.lst ds))) := by unfold frz; rw [hc]
  obtain ⟨o, h1, h2⟩ := h
  exact ⟨o, by unfold gFrz; rw [e]; exact h1, h2⟩
/-- the first of each class -/
def fr (f : Nat → Nat) (xs : List Nat) : List Nat := xs.foldl (fun fs s => if f s ∈ fs.map f then fs else fs ++ [s]) []
theorem fr_snoc (f : Nat → Nat) (xs : List Nat) (s : Nat) : fr f (xs ++ [s]) = if f s ∈ (fr f xs).map f then fr f xs else fr f xs ++ [s] := by unfold fr; rw [List.foldl_append]; rfl
theorem fr_map (f : Nat → Nat) : ∀ xs, (fr f xs).map f = dd (xs.map f) := by
  refine snoc_ind ?_ ?_
  · rfl
  · intro xs s ih
    rw [fr_snoc, List.map_append, List.map_singleton, dd_snoc, ← ih]
    unfold kIns
    split
    · rfl
    · rw [List.map_append]; rfl
theorem fr_mem (f : Nat → Nat) : ∀ xs, ∀ r ∈ fr f xs, r ∈ xs := by
  refine snoc_ind ?_ ?_
  · intro r hr; cases hr
  · intro xs s ih r hr
    rw [fr_snoc] at hr
    split at hr
    · exact List.mem_append_left _ (ih r hr)
    · rcases List.mem_append.mp hr with h | h
      · exact List.mem_append_left _ (ih r h)
      · exact List.mem_append_right _ h
structure Least (ss out : List St) (ord : List Nat) (num : Nat → Nat) : Prop where
  zero : num 0 = 0
  row : ∀ s ∈ ord, out[num s]? = some (ac ss s, (tg ss s).map num)
  eqv : ∀ s ∈ ord, ∀ t ∈ ord, (num s = num t ↔ Bis ss s t)
  few : out.length ≤ 100
theorem least_run (n : Net m ss) : ∃ (out : List St) (ord : List Nat) (num : Nat → Nat), m_least_form A [.lst (ss.map rowD)] = some (.val (.tup (out.map rowD))) ∧ Ord ss ord ∧ Least ss out ord num := by
  obtain ⟨ord, h1, o⟩ := reached_run A n
  obtain ⟨f, h2, hf⟩ := classes_run A n o
  have hfew := n.few
  have hol := lt_range o.nd o.lt
  have hs : 1000000 ≤ sizeLine := by unfold sizeLine; omega
  let CC := dd (ord.map f)
  let num : Nat → Nat := fun t => pos (f t) CC
  have hCC : ∀ s ∈ ord, f s ∈ CC := fun s hs => dd_mem.mpr (List.mem_map.mpr ⟨s, hs, rfl⟩)
  have hnum : ∀ s ∈ ord, ∀ t ∈ ord, (num s = num t ↔ Bis ss s t) := fun s hs t ht => by
    rw [← hf s hs t ht]
    exact ⟨pos_inj (hCC s hs) (hCC t ht), fun e => by show pos (f s) CC = pos (f t) CC; rw [e]⟩
  let out : List St := (fr f ord).map fun r => (ac ss r, (tg ss r).map num)
  have hfl : ∀ xs : List Nat, (fr f xs).length ≤ xs.length := fun xs => by
    have := congrArg List.length (fr_map f xs)
    rw [List.length_map] at this
    rw [this]
    exact Nat.le_trans (dd_len _) (by simp)
  refine ⟨out, ord, num, ?_, o, ?_, ?_, hnum, ?_⟩
  · refine m_val rfl ?_
    refine wp_seq (wp_set (d := .lst (ord.map nD)) (e_fn (ds := [.lst (ss.map rowD)]) rfl h1) ?_)
    refine wp_seq (wp_set (d := dD false nD ord fun s => nD (f s)) (e_fn (ds := [.lst (ss.map rowD), .lst (ord.map nD)]) rfl h2) ?_)
    refine wp_seq (wp_asgN (ds := ([] : List Nat).map nD) rfl ?_)
    refine wp_seq (wp_asgT (t := dT false nD ([] : List Nat) fun c => nD (pos c CC)) rfl ?_)
    refine wp_seq (wp_for (ds := ord.map nD) (e_items (d := .lst (ord.map nD)) rfl rfl) ?_)
    let E : List Nat → Option Cell → Option Cell → VL.Env := fun fs y5 y7 => [some (.fz (.lst (ss.map rowD))), some (.fz (.lst (ord.map nD))), some (.fz (dD false nD ord fun s => nD (f s))), some (.own (fs.map nD)), some (.tre none (dT false nD (fs.map f) fun c => nD (pos c CC))), y5, none, y7, none]
    refine wpl_all (fun (done : List Nat) c => ∃ (y5 : Option Cell), c = E (fr f done) y5 none) ⟨none, rfl⟩ ?_ ?_
    · rintro done s rest c q ⟨y5, rfl⟩
      refine ⟨_, rfl, ?_⟩
      have hso : s ∈ ord := by rw [q]; simp
      have hcls : dIx (dD false nD ord fun s => nD (f s)) (nD s) = some (nD (f s)) := dIx_get kem_nat hso
      have hpre : ∃ r, CC = dd ((done ++ [s]).map f) ++ r := by
        obtain ⟨r, hr⟩ := dd_pre ((done ++ [s]).map f) (rest.map f)
        refine ⟨r, ?_⟩
        rw [← hr, ← List.map_append]
        show dd (ord.map f) = _
        rw [q]
        simp
      have hdl : done.length < ord.length := by rw [q]; simp
      have hfd := hfl done
      have hnn : ((fr f done).map f).Nodup := by rw [fr_map]; exact dd_nodup _
      rw [← fr_map] at hpre
      rw [fr_snoc] at hpre ⊢
      generalize fr f done = fs at hpre hfd hnn
      refine wp_if (b := !decide (f s ∈ fs.map f)) (e_B (e_2 (e_2 rfl rfl hcls) (e_viewA (e := nD) (xs := fs.map f) (w := fun c => nD (pos c CC)) rfl) (nat_notIn _ _ _))) (fun hb => ?_) (fun hb => wp_next ?_)
      · have hni : f s ∉ fs.map f := by simpa using hb
        rw [if_neg hni] at hpre ⊢
        refine wp_seq (wp_put (e := nD) (xs := fs.map f) (w := fun c => nD (pos c CC)) (a := f s) (d := nD fs.length) kem_nat hnn rfl (e_2 rfl rfl hcls) (e_leaf (e_lenM (xs := fs) (e := nD) rfl)) (by rw [List.length_map]; omega) ?_)
        rw [fUp_is, show kIns (fs.map f) (f s) = fs.map f ++ [f s] from if_neg hni]
        · refine wp_append (ds := fs.map nD) (d := nD s) rfl rfl (by rw [List.length_map]; omega) ⟨some (.fz (nD s)), ?_⟩
          simp only [E]
          rw [List.map_append, List.map_append]; rfl
        · obtain ⟨r, hr⟩ := hpre
          rw [List.map_append, List.map_singleton] at hr
          rw [hr, pos_app (by simp), pos_new hni, List.length_map]
      · have hm : f s ∈ fs.map f := by simpa using hb
        rw [if_pos hm]
        exact ⟨some (.fz (nD s)), rfl⟩
    · rintro c ⟨y5, rfl⟩
      have hk : (fr f ord).map f = CC := fr_map f ord
      have hfo := hfl ord
      have hfm := fr_mem f ord
      show Wp _ _ _
      refine wp_seq (wp_asgN (ds := ([] : List St).map rowD) rfl ?_)
      have hres : out = (fr f ord).map fun r => (ac ss r, (tg ss r).map num) := rfl
      generalize fr f ord = fs at hk hfo hfm hres
      refine wp_seq (wp_frzN rfl ?_)
      refine wp_for (ds := fs.map nD) (e_items (d := .lst (fs.map nD)) rfl rfl) ?_
      refine wpl_all (fun (done : List Nat) c => ∃ (y5 y7 : Option Cell), c = [some (.fz (.lst (ss.map rowD))), some (.fz (.lst (ord.map nD))), some (.fz (dD false nD ord fun s => nD (f s))), some (.fz (.lst (fs.map nD))), some (.tre none (dT false nD (fs.map f) fun c => nD (pos c CC))), y5, some (.own ((done.map fun r => ((ac ss r, (tg ss r).map num) : St)).map rowD)), y7, none]) ⟨_, _, rfl⟩ ?_ ?_
      · rintro done r rest c q ⟨y5, y7, rfl⟩
        refine ⟨_, rfl, ?_⟩
        have hr : r ∈ ord := hfm r (by rw [q]; simp)
        have hrl := o.lt r hr
        have hdl : done.length < fs.length := by rw [q]; simp
        have hlen := n.len r hrl
        have hml := n.ml
        refine wp_seq (wp_set (d := .lst (((tg ss r).map num).map nD)) ?_ ?_)
        · have hmm : ((tg ss r).map num).map nD = (tg ss r).map (fun t => nD (num t)) := by rw [List.map_map]; rfl
          rw [hmm]
          refine e_lst (e_lc (e := nD) (h := fun t => nD (num t)) (xs := tg ss r) (e_items (d := .tup ((tg ss r).map nD)) (e_tg rfl rfl hrl) rfl) (by omega) fun t ht => ⟨_, rfl, ?_⟩)
          have hto : t ∈ ord := o.cl r hr t ht
          refine e_getA kem_nat (e := nD) (xs := fs.map f) (w := fun c => nD (pos c CC)) (a := f t) rfl (e_2 rfl rfl (dIx_get kem_nat hto)) ?_
          rw [hk]; exact hCC t hto
        · refine wp_append (ds := (done.map fun r => ((ac ss r, (tg ss r).map num) : St)).map rowD) (d := rowD (ac ss r, (tg ss r).map num)) rfl ?_ (by rw [List.length_map, List.length_map]; omega) ⟨some (.fz (nD r)), some (.fz (.lst (((tg ss r).map num).map nD))), ?_⟩
          · exact e_tup (e_cons (e_ac rfl rfl hrl) (e_cons (e_call (e_cons rfl rfl) rfl) rfl)) (by show 2 ≤ sizeLine; omega)
          · rw [show (done ++ [r]).map (fun r => ((ac ss r, (tg ss r).map num) : St)) = done.map (fun r => ((ac ss r, (tg ss r).map num) : St)) ++ [(ac ss r, (tg ss r).map num)] by simp, List.map_append]; rfl
      · rintro c ⟨y5, y7, rfl⟩
        refine wp_ret (d := .tup (out.map rowD)) ?_ rfl
        rw [hres]; rfl
  · show pos (f 0) (dd (ord.map f)) = 0
    have : ∃ rest, ord = 0 :: rest := by
      have h := o.hd
      cases ord with
      | nil => cases h
      | cons x rest => exact ⟨rest, by rw [show x = 0 from by simpa using h]⟩
    obtain ⟨rest, hr⟩ := this
    obtain ⟨r, hr2⟩ := dd_pre [f 0] (rest.map f)
    have e : dd (ord.map f) = f 0 :: r := by
      rw [hr, List.map_cons, ← List.singleton_append, hr2]; rfl
    rw [e]
    unfold pos
    simp [List.findIdx?_cons]
  · intro s hs'
    have hCs := (pos_at (hCC s hs')).1
    have hk : CC = (fr f ord).map f := (fr_map f ord).symm
    have hCs' : ((fr f ord).map f)[num s]? = some (f s) := by rw [← hk]; exact hCs
    rw [List.getElem?_map, Option.map_eq_some_iff] at hCs'
    obtain ⟨r, hr1, hr2⟩ := hCs'
    have hr : r ∈ ord := fr_mem f ord r (List.mem_of_getElem? hr1)
    have hb : Bis ss r s := (hf r hr s hs').mp hr2
    show ((fr f ord).map fun r => ((ac ss r, (tg ss r).map num) : St))[num s]? = _
    rw [List.getElem?_map, hr1]
    show some ((ac ss r, (tg ss r).map num) : St) = _
    congr 1
    refine Prod.ext (bis_ac hb) ?_
    show (tg ss r).map num = (tg ss s).map num
    have l1 := n.len r (o.lt r hr)
    have l2 := n.len s (o.lt s hs')
    apply List.ext_getElem?
    intro i
    rw [List.getElem?_map, List.getElem?_map]
    cases e1 : (tg ss r)[i]? with
    | none =>
      have e2 : (tg ss s)[i]? = none := by rw [List.getElem?_eq_none_iff] at e1 ⊢; omega
      rw [e2]
    | some a =>
      have hi : i < (tg ss s).length := by have := (List.getElem?_eq_some_iff.mp e1).1; omega
      have e2 : (tg ss s)[i]? = some (tg ss s)[i] := List.getElem?_eq_getElem hi
      rw [e2]
      show some (num a) = some (num (tg ss s)[i])
      rw [(hnum a (o.cl r hr a (List.mem_of_getElem? e1)) _ (o.cl s hs' _ (List.mem_of_getElem? e2))).mpr (bis_tg hb e1 e2)]
  · show ((fr f ord).map fun r => ((ac ss r, (tg ss r).map num) : St)).length ≤ 100
    rw [List.length_map]
    have := hfl ord
    omega
/-! the automaton -/
abbrev ab : List Lt := [97, 98]
theorem check_alphabet_run {d : D} (h : m_is_alphabet A [d] = some (.val (.bl true))) : m_check_alphabet A [d] = some (.val .non) := by
  refine m_val rfl ?_
  exact wp_iff (by
    have := e_fn (m := m_is_alphabet A) (ga := VL.gCons (gLook 0) VL.gNil) (c := VL.envOf 1 [d]) (ds := [d]) rfl h
    exact e_not (a := true) (e_tru this rfl)) (wp_next rfl)
theorem is_state_run {u : D} {s : St} {k : Nat} (hu1 : dIx u (.int 1) = some (.lst (s.2.map nD))) (hm : s.2.length = m) (ht : ∀ t ∈ s.2, t < k) : m_is_state A [u, nD m, nD k] = some (.val (.bl true)) := by
  have hs : 1000000 ≤ sizeLine := by unfold sizeLine; omega
  refine m_val rfl ?_
  refine wp_seq (wp_iff (e_B (b := false) (e_2 (e_lenM (xs := s.2) (e := nD) (e_2 rfl rfl hu1)) rfl ?_)) (wp_next ?_))
  · have := Emb.int.ne (by decide) ((s.2.length : Nat) : Int) (m : Int)
    rw [this, hm]; simp
  refine wp_seq (wp_for (ds := s.2.map nD) (e_items (d := .lst (s.2.map nD)) (e_2 rfl rfl hu1) rfl) ?_)
  refine wpl_all (fun (done : List Nat) c => ∃ (y3 : Option Cell), c = [some (.fz u), some (.fz (nD m)), some (.fz (nD k)), y3]) ⟨none, rfl⟩ ?_ ?_
  · rintro done t rest c q ⟨y3, rfl⟩
    refine ⟨_, rfl, ?_⟩
    have htk := ht t (by rw [q]; simp)
    refine wp_iff (e_or (a := false) (b := false) (e_not (a := true) (e_tru (e_fn (ds := [nD t]) rfl rfl) rfl)) fun _ => e_not (a := true) ?_) (wp_next ⟨_, rfl⟩)
    refine e_B (b := true) ?_
    show gChain dLe dLt (gC (.int 0)) (gLook 3) (gLook 2) _ = _
    unfold gChain
    have e1 : dLe (.int 0) (nD t) = some (.bl true) := by
      show some (D.bl (decide ((0 : Int) ≤ (t : Int)))) = _
      rw [decide_eq_true]; omega
    have e2 : dLt (nD t) (nD k) = some (.bl true) := by
      show some (D.bl (decide ((t : Int) < (k : Int)))) = _
      rw [decide_eq_true]; omega
    simp only [gC, gLook]
    simp [e1, e2]
  · rintro c ⟨y3, rfl⟩
    exact wp_ret (d := .bl true) rfl rfl
abbrev aNs : List Str := ["alphabet", "states"]
abbrev auD (al : List Lt) (out : List St) : D := .ins A.C_Automaton aNs [alD al, .tup (out.map rowD)]
theorem make_run {al : List Lt} {u : St → D} (ha : m_is_alphabet A [alD al] = some (.val (.bl true))) (hal : al.length = m) (n : Net m ss) (hu0 : ∀ s, dIx (u s) (.int 0) = some (.bl s.1)) (hu1 : ∀ s, dIx (u s) (.int 1) = some (.lst (s.2.map nD))) :
    ∃ (out : List St) (ord : List Nat) (num : Nat → Nat), i_Automaton A [alD al, .lst (ss.map u)] = some (aNs, [alD al, .tup (out.map rowD)]) ∧ Ord ss ord ∧ Least ss out ord num := by
  obtain ⟨out, ord, num, h1, h2, h3⟩ := least_run A n
  refine ⟨out, ord, num, ?_, h2, h3⟩
  have hs : 1000000 ≤ sizeLine := by unfold sizeLine; omega
  have hfew := n.few
  have hml := n.ml
  refine i_val rfl ?_
  refine wp_seq (wp_drop (d := .non) (e_fn (ds := [alD al]) rfl (check_alphabet_run A ha)) ?_)
  refine wp_seq (wp_iff (e_B (b := false) (e_2 (e_lenM (xs := ss) (e := u) rfl) rfl ?_)) (wp_next ?_))
  · have := Emb.int.eq (by decide) ((ss.length : Nat) : Int) 0
    have hne := n.ne
    rw [this, decide_eq_false (by omega)]
  refine wp_seq (wp_asgN (ds := ([] : List St).map rowD) rfl ?_)
  refine wp_seq (wp_for (ds := enD 0 (ss.map u)) rfl ?_)
  refine wpl_en (fun (done : List St) c => ∃ y4 y5, c = [some (.slf A.C_Automaton [] []), some (.fz (alD al)), some (.fz (.lst (ss.map u))), some (.own (done.map rowD)), y4, y5]) [] ss _ ⟨none, none, rfl⟩ ?_ ?_
  · rintro done x rest c q ⟨y4, y5, rfl⟩
    refine ⟨_, rfl, ?_⟩
    have q' : ss = done ++ x :: rest := by rw [← q]; rfl
    have hdl : done.length < ss.length := by rw [q']; simp
    have hx : x = (ac ss done.length, tg ss done.length) := by
      have h1 := at_st hdl
      have h2 : ss[done.length]? = some x := by rw [q']; simp
      exact Option.some.inj (h2.symm.trans h1)
    have hx2 : x.2 = tg ss done.length := by rw [hx]
    have hst := is_state_run A (u := u x) (s := x) (m := m) (k := ss.length) (hu1 x) (by rw [hx2]; exact n.len _ hdl) (by rw [hx2]; exact n.tgt _ hdl)
    refine wp_seq (wp_iff (e_not (a := true) (e_tru (e_fn (ds := [u x, nD m, nD ss.length]) (e_cons rfl (e_cons (e_call (e_cons rfl rfl) (by rw [← hal]; exact len_al (x := al) (by omega))) (e_cons (e_lenM (xs := ss) (e := u) rfl) rfl))) hst) rfl)) (wp_next ?_))
    refine wp_append (ds := done.map rowD) (d := rowD x) rfl (e_tup (e_cons (e_2 rfl rfl (hu0 x)) (e_cons (e_call (e_cons (e_2 rfl rfl (hu1 x)) rfl) rfl) rfl)) (by show 2 ≤ sizeLine; omega)) (by rw [List.length_map]; omega) ⟨_, _, by rw [List.map_append]; rfl⟩
  · rintro c ⟨y4, y5, rfl⟩
    refine wp_seq (wp_fldS (d := alD al) rfl rfl ⟨by simp, by decide⟩ ?_)
    refine wp_frzN rfl (wp_fldS (d := .tup (out.map rowD)) rfl (e_fn (ds := [.lst (ss.map rowD)]) rfl h1) ⟨by decide, by decide⟩ ?_)
    exact ⟨_, rfl, rfl⟩
end K77
end

section
/-! K77S: texts read by states; the first twins; beat_same_counts. -/
namespace K77
open PySem PySem.Spec PyProof.Rows L2 VL
variable (A : Ad)
variable {m : Nat} {ss : List St}
/-! texts -/
theorem fold_rep (l : List Nat) : ∀ (k : Nat) (acc : Array Nat), (List.replicate k l.toArray).foldl (· ++ ·) acc = acc ++ (List.replicate k l).flatten.toArray
  | 0, acc => by simp
  | k + 1, acc => by
    rw [List.replicate_succ, List.foldl_cons, fold_rep l k, List.replicate_succ, List.flatten_cons]
    simp
theorem mul_al (x : List Lt) (k : Nat) (h : x.length * k ≤ 1000000) (hk : k ≤ 1000000) : dMul (alD x) (nD k) = some (alD (List.replicate k x).flatten) := by
  have hs : 1000000 ≤ sizeLine := by unfold sizeLine; omega
  unfold alD dMul
  simp only []
  have hl : (⟨(x.map Fin.val).toArray⟩ : Str).length = x.length := by
    show (x.map Fin.val).toArray.size = _
    simp
  rw [if_pos ⟨by omega, by omega, by rw [hl, Int.toNat_natCast]; omega⟩]
  congr 2
  unfold Txt.mul
  by_cases h1 : (k : Int) < 1
  · rw [if_pos h1]
    have : k = 0 := by omega
    subst this
    rfl
  · rw [if_neg h1]
    by_cases h2 : ((k : Int) == 1 || (⟨(x.map Fin.val).toArray⟩ : Str).length == 0) = true
    · rw [if_pos h2, Bool.or_eq_true] at *
      rcases h2 with h2 | h2
      · have : k = 1 := by have := beq_iff_eq.mp h2; omega
        subst this
        simp
      · have : x.length = 0 := by rw [← hl]; exact beq_iff_eq.mp h2
        have : x = [] := List.length_eq_zero_iff.mp this
        subst this
        simp
    · rw [if_neg h2]
      show (⟨(List.replicate (k : Int).toNat (x.map Fin.val).toArray).foldl (· ++ ·) #[]⟩ : Str) = _
      rw [fold_rep, Int.toNat_natCast]
      congr 1
      simp [List.map_flatten]
theorem mul_a (k : Nat) (h : k ≤ 1000) : dMul (.str "a") (nD k) = some (alD (List.replicate k 97)) := by
  have := mul_al [97] k (by simp; omega) (by omega)
  have e : (List.replicate k [(97 : Lt)]).flatten = List.replicate k 97 := by
    induction k with
    | zero => rfl
    | succ k ih => rw [List.replicate_succ, List.flatten_cons, ih (by omega) (mul_al _ _ (by simp; omega) (by omega))]; rfl
  rw [e] at this
  exact this
theorem mul_b (k : Nat) (h : k ≤ 1000) : dMul (.str "b") (nD k) = some (alD (List.replicate k 98)) := by
  have := mul_al [98] k (by simp; omega) (by omega)
  have e : (List.replicate k [(98 : Lt)]).flatten = List.replicate k 98 := by
    induction k with
    | zero => rfl
    | succ k ih => rw [List.replicate_succ, List.flatten_cons, ih (by omega) (mul_al _ _ (by simp; omega) (by omega))]; rfl
  rw [e] at this
  exact this
def abT (i j : Nat) : List Lt := List.replicate i 97 ++ List.replicate j 98
theorem abT_len (i j : Nat) : (abT i j).length = i + j := by unfold abT; simp
theorem abT_ab (i j : Nat) : ∀ c ∈ abT i j, c ∈ ab := by
  intro c hc
  rcases List.mem_append.mp hc with h | h
  · rw [(List.mem_replicate.mp h).2]; simp
  · rw [(List.mem_replicate.mp h).2]; simp
theorem e_abT {c : VL.Env} {ga gb : GE} {i j : Nat} (h1 : ga c = some (nD i)) (h2 : gb c = some (nD j)) (hi : i ≤ 1000) (hj : j ≤ 1000) : VL.g2 dAdd (VL.g2 dMul (gC (.str "a")) ga) (VL.g2 dMul (gC (.str "b")) gb) c = some (alD (abT i j)) := by
  have hs : 1000000 ≤ sizeLine := by unfold sizeLine; omega
  exact e_2 (e_2 rfl h1 (mul_a i hi)) (e_2 rfl h2 (mul_b j hj)) (add_al (by simp; omega))
/-! reading -/
def lx (c : Lt) : Nat := if c = 97 then 0 else 1
def nx (ss : List St) (s : Nat) (c : Lt) : Nat := (tg ss s).getD (lx c) 0
def rd (ss : List St) (s : Nat) (x : List Lt) : Nat := x.foldl (nx ss) s
theorem rd_snoc (ss : List St) (s : Nat) (x : List Lt) (c : Lt) : rd ss s (x ++ [c]) = nx ss (rd ss s x) c := by unfold rd; rw [List.foldl_append]; rfl
theorem rd_app (ss : List St) (s : Nat) (x y : List Lt) : rd ss s (x ++ y) = rd ss (rd ss s x) y := by unfold rd; rw [List.foldl_append]
theorem nx_at (n : Net 2 ss) {s : Nat} (hs : s < ss.length) (c : Lt) : (tg ss s)[lx c]? = some (nx ss s c) ∧ nx ss s c ∈ tg ss s := by
  have hl := n.len s hs
  have h2 : lx c < (tg ss s).length := by rw [hl]; unfold lx; split <;> omega
  have e : (tg ss s)[lx c]? = some (nx ss s c) := by
    unfold nx
    rw [List.getD_eq_getElem?_getD, List.getElem?_eq_getElem h2]; rfl
  exact ⟨e, List.mem_of_getElem? e⟩
theorem nx_lt (n : Net 2 ss) {s : Nat} (hs : s < ss.length) (c : Lt) : nx ss s c < ss.length := n.tgt s hs _ (nx_at n hs c).2
theorem rd_lt (n : Net 2 ss) : ∀ (x : List Lt) (s : Nat), s < ss.length → rd ss s x < ss.length
  | [], s, h => h
  | c :: x, s, h => rd_lt n x _ (nx_lt n h c)
theorem nx_ord (n : Net 2 ss) {ord : List Nat} (o : Ord ss ord) {s : Nat} (hs : s ∈ ord) (c : Lt) : nx ss s c ∈ ord := o.cl s hs _ (nx_at n (o.lt s hs) c).2
theorem rd_ord (n : Net 2 ss) {ord : List Nat} (o : Ord ss ord) : ∀ (x : List Lt) (s : Nat), s ∈ ord → rd ss s x ∈ ord
  | [], s, h => h
  | c :: x, s, h => rd_ord n o x _ (nx_ord n o h c)
theorem bis_nx (n : Net 2 ss) {s t : Nat} (hs : s < ss.length) (ht : t < ss.length) (h : Bis ss s t) (c : Lt) : Bis ss (nx ss s c) (nx ss t c) := bis_tg h (nx_at n hs c).1 (nx_at n ht c).1
theorem bis_rd (n : Net 2 ss) : ∀ (x : List Lt) (s t : Nat), s < ss.length → t < ss.length → Bis ss s t → Bis ss (rd ss s x) (rd ss t x)
  | [], _, _, _, _, h => h
  | c :: x, s, t, hs, ht, h => bis_rd n x _ _ (nx_lt n hs c) (nx_lt n ht c) (bis_nx n hs ht h c)
theorem letters_iter (x : List Lt) : (alD x).iter = some (x.map fun c => (Sy.l c).D) := by
  rw [iter_al, List.map_map]; rfl
theorem occ_a : Builtin.Str.occurrences ⟨#[97, 98]⟩ ⟨#[97]⟩ 0 2 1 = [0] := by decide +kernel
theorem occ_b : Builtin.Str.occurrences ⟨#[97, 98]⟩ ⟨#[98]⟩ 0 2 1 = [1] := by decide +kernel
theorem find_a : Txt.find ⟨#[97, 98]⟩ ⟨#[97]⟩ = 0 := by decide +kernel
theorem find_b : Txt.find ⟨#[97, 98]⟩ ⟨#[98]⟩ = 1 := by decide +kernel
theorem find_ab {c : Lt} (h : c ∈ ab) : dFindS (alD ab) (Sy.l c).D = some (nD (lx c)) := by
  have : c = 97 ∨ c = 98 := by simpa using h
  rcases this with rfl | rfl
  · show some (D.int (Txt.find ⟨#[97, 98]⟩ ⟨#[97]⟩)) = _
    rw [find_a]; rfl
  · show some (D.int (Txt.find ⟨#[97, 98]⟩ ⟨#[98]⟩)) = _
    rw [find_b]; rfl
theorem idx_ab {c : Lt} (h : c ∈ ab) : dIdxS (.str "ab") (Sy.l c).D = some (nD (lx c)) := by
  have : c = 97 ∨ c = 98 := by simpa using h
  rcases this with rfl | rfl
  · show (match Builtin.Str.occurrences ⟨#[97, 98]⟩ ⟨#[97]⟩ 0 2 1 with
      | i :: _ => some (D.int (i : Nat))
      | [] => none) = _
    rw [occ_a]; rfl
  · show (match Builtin.Str.occurrences ⟨#[97, 98]⟩ ⟨#[98]⟩ 0 2 1 with
      | i :: _ => some (D.int (i : Nat))
      | [] => none) = _
    rw [occ_b]; rfl
theorem halp : m_is_alphabet A [alD ab] = some (.val (.bl true)) := rfl
theorem stranger_run (al x : List Lt) (hx : ∀ c ∈ x, c ∈ al) (hl : x.length ≤ 1000) : m_first_stranger A [alD al, alD x] = some (.val .non) := by
  have key : ∃ d, m_first_stranger A [alD al, alD x] = some (.val d) ∧ d = .non := by
    refine m_ex rfl ?_
    have hs : 1000000 ≤ sizeLine := by unfold sizeLine; omega
    refine wp_seq (wp_for (ds := rgD 0 x.length) (e_rg1 (n := (x.length : Nat)) (e_cons (e_call (e_cons rfl rfl) (len_al (by omega))) rfl) (by omega) (by omega)) ?_)
    refine wpl_rg (fun k c => ∃ y, c = [some (.fz (alD al)), some (.fz (alD x)), y]) ⟨none, rfl⟩ ?_ ?_
    · rintro k c hk ⟨y, rfl⟩
      refine ⟨_, rfl, ?_⟩
      have hx' : x[k]? = some x[k] := List.getElem?_eq_getElem hk
      have hm := hx x[k] (List.getElem_mem _)
      have h1 := in_al x[k] al
      have h2 : dNotIn (Sy.l x[k]).D (alD al) = some (.bl false) := by
        unfold dIn at h1
        unfold dNotIn
        cases hq : dInB (Sy.l x[k]).D (alD al) with
        | none => rw [hq] at h1; cases h1
        | some b =>
          rw [hq] at h1
          have : b = decide (x[k] ∈ al) := by cases h1; rfl
          rw [this, decide_eq_true hm]; rfl
      exact wp_iff (e_B (b := false) (e_2 (e_2 rfl rfl (ix_al (by omega) hx')) rfl h2)) (wp_next ⟨_, rfl⟩)
    · rintro c ⟨y, rfl⟩
      exact wp_ret (d := .non) rfl ⟨_, rfl, rfl⟩
  obtain ⟨d, h1, rfl⟩ := key
  exact h1
theorem takes_run (n : Net 2 ss) {x : List Lt} (hx : ∀ c ∈ x, c ∈ ab) {u : St → D} (hu0 : ∀ s, dIx (u s) (.int 0) = some (.bl s.1)) (hu1 : ∀ s, dIx (u s) (.int 1) = some (.lst (s.2.map nD))) : m__law_takes A [.lst (ss.map u), alD x] = some (.val (.bl (ac ss (rd ss 0 x)))) := by
  refine m_val rfl ?_
  refine wp_seq (wp_set (d := nD 0) rfl ?_)
  refine wp_seq (wp_for (ds := x.map fun c => (Sy.l c).D) (e_items rfl (letters_iter x)) ?_)
  refine wpl_all (fun (done : List Lt) c => ∃ (y3 : Option Cell), c = [some (.fz (.lst (ss.map u))), some (.fz (alD x)), some (.fz (nD (rd ss 0 done))), y3]) ⟨none, rfl⟩ ?_ ?_
  · rintro done c0 rest c q ⟨y3, rfl⟩
    refine ⟨_, rfl, ?_⟩
    have hc := hx c0 (by rw [q]; simp)
    have hlt := rd_lt n done 0 n.ne
    have hat := at_st hlt
    refine wp_set (d := nD (nx ss (rd ss 0 done) c0)) (e_2 (e_2 (e_2 rfl rfl (ix_map rfl hat)) rfl (hu1 _)) (e_2 rfl rfl (idx_ab hc)) (ix_map rfl (nx_at n hlt c0).1)) ⟨some (.fz (Sy.l c0).D), ?_⟩
    rw [rd_snoc]; rfl
  · rintro c ⟨y3, rfl⟩
    have hlt := rd_lt n x 0 n.ne
    exact wp_ret (d := .bl (ac ss (rd ss 0 x))) (e_2 (e_2 rfl rfl (ix_map rfl (at_st hlt))) rfl (hu0 _)) rfl
/-! the automaton reads -/
theorem state_of_run (n : Net 2 ss) {out : List St} {ord : List Nat} {num : Nat → Nat} (o : Ord ss ord) (l : Least ss out ord num) {x : List Lt} (hx : ∀ c ∈ x, c ∈ ab) : m_state_of A [alD ab, .tup (out.map rowD), alD x] = some (.val (nD (num (rd ss 0 x)))) := by
  have h0 : 0 ∈ ord := List.mem_of_getElem? o.hd
  refine m_val rfl ?_
  refine wp_seq (wp_set (d := nD (num 0)) (by rw [l.zero]; rfl) ?_)
  refine wp_seq (wp_for (ds := x.map fun c => (Sy.l c).D) (e_items rfl (letters_iter x)) ?_)
  refine wpl_all (fun (done : List Lt) c => ∃ (y4 : Option Cell), c = [some (.fz (alD ab)), some (.fz (.tup (out.map rowD))), some (.fz (alD x)), some (.fz (nD (num (rd ss 0 done)))), y4]) ⟨none, rfl⟩ ?_ ?_
  · rintro done c0 rest c q ⟨y4, rfl⟩
    refine ⟨_, rfl, ?_⟩
    have hc := hx c0 (by rw [q]; simp)
    have ho := rd_ord n o done 0 h0
    have hrow := l.row _ ho
    have hnx := (nx_at n (o.lt _ ho) c0).1
    refine wp_set (d := nD (num (nx ss (rd ss 0 done) c0))) (e_2 (e_2 (e_2 rfl rfl (ix_map rfl hrow)) rfl rfl) (e_2 rfl rfl (find_ab hc)) ?_) ⟨some (.fz (Sy.l c0).D), ?_⟩
    · exact ix_map (e := nD) (xs := (tg ss (rd ss 0 done)).map num) (k := lx c0) rfl (by rw [List.getElem?_map, hnx]; rfl)
    · rw [rd_snoc]; rfl
  · rintro c ⟨y4, rfl⟩
    exact wp_ret (d := nD (num (rd ss 0 x))) rfl rfl
theorem contains_run (n : Net 2 ss) {out : List St} {ord : List Nat} {num : Nat → Nat} (o : Ord ss ord) (l : Least ss out ord num) {x : List Lt} (hx : ∀ c ∈ x, c ∈ ab) (hl : x.length ≤ 1000) : m_Automaton_contains A [auD A ab out, alD x] = some (.val (.bl (ac ss (rd ss 0 x)))) := by
  have h0 : 0 ∈ ord := List.mem_of_getElem? o.hd
  have ho := rd_ord n o x 0 h0
  have hrow := l.row _ ho
  refine m_val rfl ?_
  refine wp_seq (wp_iff (e_B (b := false) (e_2 (e_fn (ds := [alD ab, alD x]) (e_cons (e_fld (d := alD ab) rfl rfl) rfl) (stranger_run A ab x hx hl)) rfl rfl)) (wp_next ?_))
  exact wp_ret (d := .bl (ac ss (rd ss 0 x))) (e_2 (e_2 (e_fld (d := .tup (out.map rowD)) rfl rfl) (e_fn (ds := [alD ab, .tup (out.map rowD), alD x]) (e_cons (e_fld (d := alD ab) rfl rfl) (e_cons (e_fld (d := .tup (out.map rowD)) rfl rfl) rfl)) (state_of_run A n o l hx)) (ix_map rfl hrow)) rfl rfl) rfl
/-- the states along letters a -/
def sA (ss : List St) (k : Nat) : Nat := rd ss 0 (List.replicate k 97)
theorem sA_succ (ss : List St) (k : Nat) : sA ss (k + 1) = nx ss (sA ss k) 97 := by
  unfold sA
  rw [List.replicate_succ', rd_snoc]
theorem pos_range {α : Type} [DecidableEq α] {q : Nat → α} {i a : Nat} (hn : ((List.range i).map q).Nodup) (ha : a < i) : pos (q a) ((List.range i).map q) = a := by
  have hm : q a ∈ (List.range i).map q := List.mem_map.mpr ⟨a, by simpa using ha, rfl⟩
  have h1 := (pos_at hm).1
  have h2 : ((List.range i).map q)[a]? = some (q a) := by
    rw [List.getElem?_map, List.getElem?_range ha]; rfl
  exact (List.getElem?_inj (List.getElem?_eq_some_iff.mp h1).1 hn).mp (by rw [h1, h2])
theorem twins_run (n : Net 2 ss) {out : List St} {ord : List Nat} {num : Nat → Nat} (o : Ord ss ord) (l : Least ss out ord num) {i j : Nat} (r : Rep (fun k => num (sA ss k)) i j) (hi : i ≤ 500) : m_first_twins A [auD A ab out] = some (.val (.tup [nD j, nD i])) := by
  have hs : 1000000 ≤ sizeLine := by unfold sizeLine; omega
  have h0 : 0 ∈ ord := List.mem_of_getElem? o.hd
  have hord : ∀ k, sA ss k ∈ ord := fun k => rd_ord n o _ 0 h0
  let q : Nat → Nat := fun k => num (sA ss k)
  have hn : ((List.range i).map q).Nodup := map_nodup r.no
  generalize hQ : (List.range i).map q = QQ at hn
  have hpos : ∀ a, a < i → pos (q a) QQ = a := fun a ha => by rw [← hQ]; exact pos_range (hQ.symm ▸ hn) ha
  refine m_val rfl ?_
  refine wp_seq (wp_asgT (t := dT false nD ([] : List Nat) fun x => nD (pos x QQ)) rfl ?_)
  refine wp_seq (wp_set (d := nD (q 0)) (by show some (D.int ((0 : Nat) : Int)) = some (nD (num 0)); rw [l.zero]) ?_)
  refine wp_seq (wp_set (d := nD 0) rfl ?_)
  let E : Nat → VL.Env := fun a => [some (.fz (auD A ab out)), some (.tre none (dT false nD ((List.range a).map q) fun x => nD (pos x QQ))), some (.fz (nD (q a))), some (.fz (nD a))]
  refine wp_seq (wp_while (fun c k => ∃ a, c = E a ∧ k + a = i) (m := i) ?_ ⟨0, rfl, by omega⟩ ?_)
  · show i < 1000
    omega
  · rintro c k ⟨a, rfl, hk⟩
    have hmem : q a ∈ (List.range a).map q ↔ a = i := by
      constructor
      · intro h
        obtain ⟨b, hb, e⟩ := List.mem_map.mp h
        have hb' : b < a := by simpa using hb
        by_cases hai : a = i
        · exact hai
        · exact absurd e (r.no b a hb' (by omega))
      · rintro rfl
        exact List.mem_map.mpr ⟨j, by simpa using r.lt, r.eq.symm⟩
    refine ⟨!decide (q a ∈ (List.range a).map q), e_B (e_2 rfl (e_viewA (e := nD) (xs := (List.range a).map q) (w := fun x => nD (pos x QQ)) rfl) (nat_notIn _ _ _)), fun hb => ?_, fun hb => ?_⟩
    · have hni : q a ∉ (List.range a).map q := by simpa using hb
      have hai : a < i := by
        have : ¬ a = i := fun e => hni (hmem.mpr e)
        omega
      have hnn : ((List.range a).map q).Nodup := map_nodup fun b c h1 h2 => r.no b c h1 (by omega)
      have hrow := l.row _ (hord a)
      have hnx := (nx_at n (o.lt _ (hord a)) 97).1
      refine wp_seq (wp_put (e := nD) (xs := (List.range a).map q) (w := fun x => nD (pos x QQ)) (a := q a) (d := nD a) kem_nat hnn rfl rfl (e_leaf rfl) (by simp; omega) ?_)
      rw [fUp_is (by show nD (pos (q a) QQ) = nD a; rw [hpos a hai]), show kIns ((List.range a).map q) (q a) = (List.range (a + 1)).map q from by rw [List.range_succ, List.map_append]; exact if_neg hni]
      refine wp_seq (wp_set (d := nD (q (a + 1))) (e_2 (e_2 (e_2 (e_fld (d := .tup (out.map rowD)) rfl rfl) rfl (ix_map rfl hrow)) rfl rfl) rfl ?_) ?_)
      · show dIx (.tup (((tg ss (sA ss a)).map num).map nD)) (.int ((0 : Nat) : Int)) = some (nD (num (sA ss (a + 1))))
        refine ix_map (e := nD) (xs := (tg ss (sA ss a)).map num) (k := 0) rfl ?_
        rw [sA_succ, List.getElem?_map]
        have : (tg ss (sA ss a))[0]? = some (nx ss (sA ss a) 97) := hnx
        rw [this]; rfl
      · exact ⟨_, rfl, k - 1, by omega, a + 1, rfl, by omega⟩
    · have hm : q a ∈ (List.range a).map q := by simpa using hb
      have hai := hmem.mp hm
      subst hai
      have hw : pos (q a) QQ = j := by
        have e : q a = q j := r.eq
        rw [e]; exact hpos j r.lt
      refine wp_ret (d := .tup [nD j, nD a]) (e_tup (e_cons (x := nD j) ?_ (e_cons rfl rfl)) (by show 2 ≤ sizeLine; omega)) rfl
      refine (e_getA (o := none) kem_nat (e := nD) (xs := (List.range a).map q) (w := fun x => nD (pos x QQ)) (a := q a) rfl rfl hm).trans ?_
      show some (nD (pos (q a) QQ)) = _
      rw [hw]
/-! beat_same_counts -/
abbrev bNs : List Str := ["text", "taken", "belongs"]
abbrev bD (t : List Lt) (x y : Bool) : D := .ins A.C_Beaten bNs [alD t, .bl x, .bl y]
theorem Beaten_run (t : List Lt) (x y : Bool) : i_Beaten A [alD t, .bl x, .bl y] = some (bNs, [alD t, .bl x, .bl y]) := by
  refine i_val rfl ?_
  refine wp_seq (wp_fldS (d := alD t) rfl rfl ⟨by simp, by decide⟩ ?_)
  refine wp_seq (wp_fldS (d := .bl x) rfl rfl ⟨by decide, by decide⟩ ?_)
  refine wp_fldS (d := .bl y) rfl rfl ⟨by decide, by decide⟩ ?_
  exact ⟨_, rfl, rfl⟩
theorem e_inO {c : VL.Env} {C : Addr} {m : List D → Option Res} {neg : Bool} {ga gb : GE} {x : D} {ns : List Str} {ds : List D} {t : Bool} (h1 : ga c = some x) (h2 : gb c = some (.ins C ns ds)) (hm : m [.ins C ns ds, x] = some (.val (.bl t))) : gInO C m neg ga gb c = some (.bl (if neg then !t else t)) := by
  unfold gInO
  rw [h1, h2]
  simp only [if_true, hm]
theorem is_ab (out : List St) : m_check_alphabet_is A [auD A ab out, .str "ab"] = some (.val .non) := by
  refine m_val rfl ?_
  refine wp_iff (e_B (b := false) (e_2 (e_fld (d := alD ab) rfl rfl) rfl ?_)) (wp_next rfl)
  have := Emb.tx.ne (by decide) ab ab
  rw [show alD ab = D.str "ab" from rfl] at this ⊢
  rw [this]; simp
theorem beat_run (n : Net 2 ss) {out : List St} {ord : List Nat} {num : Nat → Nat} (o : Ord ss ord) (l : Least ss out ord num) {i j : Nat} (r : Rep (fun k => num (sA ss k)) i j) (hi : i ≤ 400) :
    m_beat_same_counts A [auD A ab out] = some (.val (if ac ss (rd ss 0 (abT j j)) then bD A (abT i j) true false else bD A (abT j j) false true)) := by
  have hj := r.lt
  refine m_val rfl ?_
  refine wp_seq (wp_callX (ds := [auD A ab out, .str "ab"]) rfl (is_ab A out) ⟨_, rfl, ?_⟩)
  refine wp_seq (wp_asg (d := .tup [nD j, nD i]) (e_fn (ds := [auD A ab out]) rfl (twins_run A n o l r (by omega))) rfl ?_)
  refine wp_seq (wp_set (d := alD (abT j j)) (e_abT rfl rfl (by omega) (by omega)) ?_)
  have hc := contains_run A n o l (abT_ab j j) (by rw [abT_len]; omega)
  refine wp_seq (wp_if (b := !(ac ss (rd ss 0 (abT j j)))) (e_B (e_inO (neg := true) rfl rfl hc)) (fun hb => ?_) (fun hb => wp_next ?_))
  · have hf : ac ss (rd ss 0 (abT j j)) = false := by simpa using hb
    rw [hf, if_neg Bool.false_ne_true]
    exact wp_ret (d := bD A (abT j j) false true) (e_make (ds := [alD (abT j j), .bl false, .bl true]) rfl (Beaten_run A _ _ _)) rfl
  · have ht : ac ss (rd ss 0 (abT j j)) = true := by simpa using hb
    rw [ht, if_pos rfl]
    exact wp_ret (d := bD A (abT i j) true false) (e_make (ds := [alD (abT i j), .bl true, .bl false]) (e_cons (e_abT rfl rfl (by omega) (by omega)) rfl) (Beaten_run A _ _ _)) rfl
end K77
end

section
/-! K77T: the law's states, its classes, its texts. -/
namespace K77
open PySem PySem.Spec PyProof.Rows L2 VL
variable (A : Ad)
variable {ss : List St}
abbrev stD (s : St) : D := .lst [.bl s.1, .lst (s.2.map nD)]
abbrev stT (s : St) : VL.T := .lst [.leaf (.bl s.1), .lst (s.2.map fun t => .leaf (nD t))]
theorem stD0 (s : St) : dIx (stD s) (.int 0) = some (.bl s.1) := rfl
theorem stD1 (s : St) : dIx (stD s) (.int 1) = some (.lst (s.2.map nD)) := rfl
def OkS (N : Nat) (s : St) : Prop := s.2.length = 2 ∧ ∀ t ∈ s.2, t < N
theorem net_of (h0 : 0 < ss.length) (h1 : ss.length ≤ 100) (h : ∀ s ∈ ss, OkS ss.length s) : Net 2 ss := by
  have at_ : ∀ s, s < ss.length → OkS ss.length (ac ss s, tg ss s) := fun s hs => h _ (List.mem_of_getElem? (at_st hs))
  exact ⟨by omega, h0, h1, fun s hs => (at_ s hs).1, fun s hs => (at_ s hs).2⟩
theorem okS_two {N x y : Nat} (hx : x < N) (hy : y < N) (b : Bool) : OkS N (b, [x, y]) := ⟨rfl, fun t ht => by
  simp at ht
  rcases ht with rfl | rfl <;> assumption⟩
/-! the law's counting states -/
theorem e_stT {c : VL.Env} {gb gx gy : GE} {b : Bool} {x y : Nat} (h1 : gb c = some (.bl b)) (h2 : gx c = some (nD x)) (h3 : gy c = some (nD y)) : tgLst (tgCons (tgLeaf gb) (tgCons (tgLst (tgCons (tgLeaf gx) (tgCons (tgLeaf gy) tgNil))) tgNil)) c = some (stT (b, [x, y])) := by
  have hs : 1000000 ≤ sizeLine := by unfold sizeLine; omega
  exact e_tLst (e_tCons (e_leaf h1) (e_tCons (e_tLst (e_tCons (e_leaf h2) (e_tCons (e_leaf h3) rfl)) (by show 2 ≤ sizeLine; omega)) rfl)) (by show 2 ≤ sizeLine; omega)
theorem is_zero (k : Nat) : dEq (nD k) (.int 0) = some (.bl (decide ((k : Int) = 0))) := Emb.int.eq (by decide) (k : Int) 0
theorem counting_run (many : Nat) (h : many ≤ 20) : ∃ ss : List St, m__law_counting A [nD many] = some (.lst (ss.map stT)) ∧ ss.length = 2 * many + 1 ∧ ∀ s ∈ ss, OkS (2 * many + 1) s := by
  have key : ∃ t, m__law_counting A [nD many] = some t ∧ ∃ ss : List St, t = .lst (ss.map stT) ∧ ss.length = 2 * many + 1 ∧ ∀ s ∈ ss, OkS (2 * many + 1) s := by
    refine mo_ex rfl ?_
    have hs : 1000000 ≤ sizeLine := by unfold sizeLine; omega
    refine wp_seq (wp_set (d := nD (2 * many)) (e_2 rfl rfl ((d_mul (cmul_l (by decide) (by decide))).trans ?_)) ?_)
    · show some (D.int (2 * (many : Int))) = some (D.int ((2 * many : Nat) : Int))
      congr 2
    refine wp_seq (wp_asgT (t := .lst (([] : List St).map stT)) rfl ?_)
    let E : List St → Option Cell → Option Cell → Option Cell → VL.Env := fun ss y3 y4 y5 => [some (.fz (nD many)), some (.fz (nD (2 * many))), some (.tre none (.lst (ss.map stT))), y3, y4, y5]
    have app : ∀ (ss : List St) (s : St) (y3 y4 y5 : Option Cell), (E ss y3 y4 y5).set 2 (some (.tre none (.lst (ss.map stT ++ [stT s])))) = E (ss ++ [s]) y3 y4 y5 := fun ss s y3 y4 y5 => by
      simp only [E]
      rw [List.map_append]; rfl
    have gk : ∀ k : Nat, dGt (nD k) (.int 0) = some (.bl (decide ((k : Int) > 0))) := fun _ => rfl
    refine wp_seq (wp_for (ds := rgD 0 many) (e_rg1 (n := (many : Nat)) rfl (by omega) (by omega)) ?_)
    refine wpl_rg (fun k c => ∃ (ss : List St) (y3 y4 y5 : Option Cell), c = E ss y3 y4 y5 ∧ ss.length = k ∧ ∀ s ∈ ss, OkS (2 * many + 1) s) ⟨[], none, none, none, rfl, rfl, by simp⟩ ?_ ?_
    · rintro k c hk ⟨ss, y3, y4, y5, rfl, hl, hok⟩
      refine ⟨_, rfl, ?_⟩
      refine wp_seq (wp_set (d := nD (2 * many)) rfl ?_)
      refine wp_seq (Wp.mono (P := fun o => ∃ u, u < 2 * many + 1 ∧ o = .nx (E ss (some (.fz (nD k))) (some (.fz (nD u))) y5)) ?_ ?_)
      · refine wp_if (b := decide ((k : Int) + 1 < (many : Int))) rfl (fun hb => ?_) (fun hb => wp_next ⟨2 * many, by omega, rfl⟩)
        exact wp_set (d := nD (k + 1)) rfl ⟨k + 1, by omega, rfl⟩
      rintro o ⟨u, hu, rfl⟩
      refine wp_seq (wp_set (d := nD (2 * many)) rfl ?_)
      refine wp_seq (Wp.mono (P := fun o => ∃ d, d < 2 * many + 1 ∧ o = .nx (E ss (some (.fz (nD k))) (some (.fz (nD u))) (some (.fz (nD d))))) ?_ ?_)
      · refine wp_if (b := decide ((k : Int) > 0)) rfl (fun hb => ?_) (fun hb => wp_next ⟨2 * many, by omega, rfl⟩)
        have hk0 : (k : Int) > 0 := of_decide_eq_true hb
        refine wp_set (d := nD (many + k - 1)) ?_ ⟨many + k - 1, by omega, rfl⟩
        show some (D.int ((many : Int) + (k : Int) - 1)) = some (D.int ((many + k - 1 : Nat) : Int))
        congr 2
        omega
      rintro o ⟨d, hd, rfl⟩
      refine wp_pApp (ts := ss.map stT) rfl (e_stT (e_2 rfl rfl (is_zero k)) rfl rfl) (by rw [List.length_map]; omega) ?_
      refine ⟨ss ++ [(decide ((k : Int) = 0), [u, d])], _, _, _, app .., by simp [hl], ?_⟩
      intro s hs'
      rcases List.mem_append.mp hs' with q | q
      · exact hok s q
      · simp at q; rw [q]; exact okS_two hu hd _
    rintro c ⟨ss, y3, y4, y5, rfl, hl, hok⟩
    refine wp_seq (wp_for (ds := rgD 0 many) (e_rg1 (n := (many : Nat)) rfl (by omega) (by omega)) ?_)
    refine wpl_rg (fun k c => ∃ (ss : List St) (y3 y4 y5 : Option Cell), c = E ss y3 y4 y5 ∧ ss.length = many + k ∧ ∀ s ∈ ss, OkS (2 * many + 1) s) ⟨ss, y3, y4, y5, rfl, hl, hok⟩ ?_ ?_
    · rintro k c hk ⟨ss, y3, y4, y5, rfl, hl, hok⟩
      refine ⟨_, rfl, ?_⟩
      refine wp_seq (wp_set (d := nD (2 * many)) rfl ?_)
      refine wp_seq (Wp.mono (P := fun o => ∃ d, d < 2 * many + 1 ∧ o = .nx (E ss (some (.fz (nD k))) y4 (some (.fz (nD d))))) ?_ ?_)
      · refine wp_if (b := decide ((k : Int) > 0)) rfl (fun hb => ?_) (fun hb => wp_next ⟨2 * many, by omega, rfl⟩)
        have hk0 : (k : Int) > 0 := of_decide_eq_true hb
        refine wp_set (d := nD (many + k - 1)) ?_ ⟨many + k - 1, by omega, rfl⟩
        show some (D.int ((many : Int) + (k : Int) - 1)) = some (D.int ((many + k - 1 : Nat) : Int))
        congr 2
        omega
      rintro o ⟨d, hd, rfl⟩
      refine wp_pApp (ts := ss.map stT) rfl (e_stT (x := 2 * many) (e_2 rfl rfl (is_zero k)) rfl rfl) (by rw [List.length_map]; omega) ?_
      refine ⟨ss ++ [(decide ((k : Int) = 0), [2 * many, d])], _, _, _, app .., by simp [hl]; omega, ?_⟩
      intro s hs'
      rcases List.mem_append.mp hs' with q | q
      · exact hok s q
      · simp at q; rw [q]; exact okS_two (by omega) hd _
    rintro c ⟨ss, y3, y4, y5, rfl, hl, hok⟩
    refine wp_seq (wp_pApp (ts := ss.map stT) rfl (e_stT (x := 2 * many) (y := 2 * many) (b := false) rfl rfl rfl) (by rw [List.length_map]; omega) ?_)
    rw [app]
    refine wp_retOt (t := .lst ((ss ++ [(false, [2 * many, 2 * many])]).map stT)) rfl ⟨_, rfl, ss ++ [(false, [2 * many, 2 * many])], rfl, by simp; omega, ?_⟩
    intro s hs'
    rcases List.mem_append.mp hs' with q | q
    · exact hok s q
    · simp at q; rw [q]; exact okS_two (by omega) (by omega) _
  obtain ⟨t, h1, ss, rfl, h2⟩ := key
  exact ⟨ss, h1, h2⟩
theorem plainL_st : ∀ ss : List St, VL.T.plainL (ss.map stT) = true
  | [] => rfl
  | s :: ss => by
    have h1 : VL.T.plainL (s.2.map fun t => VL.T.leaf (nD t)) = true := plain_leafs _ _
    show (VL.T.plain (stT s) && VL.T.plainL (ss.map stT)) = true
    rw [plainL_st ss, Bool.and_true]
    show (true && (VL.T.plainL (s.2.map fun t => VL.T.leaf (nD t)) && true)) = true
    rw [h1]; rfl
theorem viewL_st : ∀ ss : List St, VL.T.viewL (ss.map stT) = ss.map stD
  | [] => rfl
  | s :: ss => by
    have h1 : VL.T.viewL (s.2.map fun t => VL.T.leaf (nD t)) = s.2.map nD := view_leafs _ _
    show VL.T.view (stT s) :: VL.T.viewL (ss.map stT) = _
    rw [viewL_st ss]
    show D.lst [.bl s.1, .lst (VL.T.viewL (s.2.map fun t => VL.T.leaf (nD t)))] :: _ = _
    rw [h1]; rfl
abbrev szS : List Int := [6, 6, 2, 6, 6, 2, 6, 6, 2, 6, 6, 2, 6, 6, 2, 6, 6, 2, 6, 6]
theorem states_run (xs : List Int) : ∃ ss : List St, m__law_states A [.scr (iD xs)] = some (.val (.lst (ss.map stD))) ∧ Net 2 ss ∧ ss.length ≤ 13 := by
  have key : ∃ d, m__law_states A [.scr (iD xs)] = some (.val d) ∧ ∃ ss : List St, d = .lst (ss.map stD) ∧ Net 2 ss ∧ ss.length ≤ 13 := by
    refine m_ex rfl ?_
    have hs : 1000000 ≤ sizeLine := by unfold sizeLine; omega
    obtain ⟨n0, c0⟩ := cell_run xs 0 (by omega)
    obtain ⟨row, t1, t2⟩ := dig_run n0 szS (by decide) (by decide)
    obtain ⟨k0, r0, l0⟩ := VL.dig_at t2 (i := 0) rfl
    obtain ⟨k1, r1, l1⟩ := VL.dig_at t2 (i := 1) rfl
    obtain ⟨k3, r3, l3⟩ := VL.dig_at t2 (i := 3) rfl
    have hrow : row.length = 20 := t2.1
    have i0 : dIx (.lst (iD row)) (.int 0) = some (nD k0) := ix_map (e := D.int) rfl r0
    have i1 : dIx (.lst (iD row)) (.int 1) = some (nD k1) := ix_map (e := D.int) rfl r1
    have i3 : dIx (.lst (iD row)) (.int 3) = some (nD k3) := ix_map (e := D.int) rfl r3
    refine wp_seq (wp_set (d := .lst (iD row)) (e_fn (ds := [.int n0, .lst (iD szS)]) (e_cons (e_fn (ds := [.scr (iD xs), .int 0]) rfl c0) (e_cons rfl rfl)) t1) ?_)
    refine wp_seq (wp_set (d := nD (1 + k1)) (e_2 rfl (e_call (e_cons (e_2 rfl rfl i1) rfl) rfl) ?_) ?_)
    · show some (D.int (1 + (k1 : Int))) = some (D.int ((1 + k1 : Nat) : Int))
      congr 2
    generalize hmany : 1 + k1 = many
    have hm1 : 1 ≤ many := by omega
    have hm6 : many ≤ 6 := by omega
    refine wp_seq (wp_asgN (ds := ([] : List St).map stD) rfl ?_)
    refine wp_seq (wp_for (ds := rgD 0 many) (e_rg1 (n := (many : Nat)) rfl (by omega) (by omega)) ?_)
    let E : List St → Option Cell → Option Cell → VL.Env := fun ds y4 y5 => [some (.fz (.scr (iD xs))), some (.fz (.lst (iD row))), some (.fz (nD many)), some (.own (ds.map stD)), y4, y5, none]
    have dig : ∀ (c : VL.Env) (g : GE) (j : Nat), gLook 1 c = some (.lst (iD row)) → g c = some (nD j) → j < 20 → ∃ x : Nat, VL.g2 dIx (gLook 1) g c = some (nD x) := by
      intro c g j h1 h2 hj
      have hsz : ∃ s, szS[j]? = some s := ⟨_, List.getElem?_eq_getElem (show j < szS.length from hj)⟩
      obtain ⟨s, hs2⟩ := hsz
      obtain ⟨x, hx, _⟩ := VL.dig_at t2 (i := j) hs2
      exact ⟨x, e_2 h1 h2 (ix_map (e := D.int) rfl hx)⟩
    refine wpl_rg (fun k c => ∃ (ds : List St) (y4 : Option Cell), c = E ds y4 none ∧ ds.length = k ∧ ∀ s ∈ ds, OkS many s) ⟨[], none, rfl, rfl, by simp⟩ ?_ ?_
    · rintro k c hk ⟨ds, y4, rfl, hl, hok⟩
      refine ⟨_, rfl, ?_⟩
      have gi : ∀ (a : Int) (b : Nat), a = (b : Int) → VL.g2 dAdd (gC (.int a)) (VL.g2 dMul (gC (.int 3)) (gLook 4)) (E ds (some (.fz (nD k))) none) = some (nD (b + 3 * k)) := by
        intro a b hab
        refine e_2 rfl (e_2 rfl rfl (d_mul (cmul_l (by decide) (by decide)))) ?_
        show some (D.int (a + 3 * (k : Int))) = some (D.int ((b + 3 * k : Nat) : Int))
        congr 2
        omega
      obtain ⟨x, hx⟩ := dig (E ds (some (.fz (nD k))) none) _ _ rfl (gi 2 2 rfl) (by omega)
      obtain ⟨y, hy⟩ := dig (E ds (some (.fz (nD k))) none) _ _ rfl (gi 3 3 rfl) (by omega)
      obtain ⟨z, hz⟩ := dig (E ds (some (.fz (nD k))) none) _ _ rfl (gi 4 4 rfl) (by omega)
      have hmod : ∀ x : Nat, dMod (nD x) (nD many) = some (nD (x % many)) := fun x => by
        rw [d_mod (by omega)]
        congr 2
      refine wp_append (ds := ds.map stD) (d := stD (decide ((x : Int) = 1), [y % many, z % many])) rfl ?_ (by rw [List.length_map]; omega) ?_
      · refine e_lst (e_ln (e_cons (e_2 hx rfl (Emb.int.eq (by decide) (x : Int) 1)) (e_cons (e_lst (e_ln (e_cons (e_2 (e_call (e_cons hy rfl) rfl) rfl (hmod y)) (e_cons (e_2 (e_call (e_cons hz rfl) rfl) rfl (hmod z)) rfl)) (by show 2 ≤ sizeLine; omega))) rfl)) (by show 2 ≤ sizeLine; omega))
      · refine ⟨ds ++ [(decide ((x : Int) = 1), [y % many, z % many])], some (.fz (nD k)), ?_, by simp [hl], ?_⟩
        · simp only [E]
          rw [List.map_append]; rfl
        intro s hs'
        rcases List.mem_append.mp hs' with q | q
        · exact hok s q
        · simp at q; rw [q]; exact okS_two (Nat.mod_lt _ hm1) (Nat.mod_lt _ hm1) _
    rintro c ⟨ds, y4, rfl, hl, hok⟩
    refine wp_seq (wp_if (b := decide ((k0 : Int) < 2)) (e_B (e_2 (e_2 rfl rfl i0) rfl rfl)) (fun hb => ?_) (fun hb => wp_next ?_))
    · exact wp_ret (d := .lst (ds.map stD)) rfl ⟨_, rfl, ds, rfl, net_of (by omega) (by omega) (by rw [hl]; exact hok), by omega⟩
    obtain ⟨cs, q1, q2, q3⟩ := counting_run A many (by omega)
    refine wp_seq (wp_asgT (t := .lst (cs.map stT)) (e_fnT (ds := [nD many]) rfl q1) ?_)
    let E2 : List St → Option Cell → VL.Env := fun ss y6 => [some (.fz (.scr (iD xs))), some (.fz (.lst (iD row))), some (.fz (nD many)), some (.own (ds.map stD)), y4, some (.tre none (.lst (ss.map stT))), y6]
    refine wp_seq (Wp.mono (P := fun o => ∃ ss : List St, o = .nx (E2 ss none) ∧ 0 < ss.length ∧ ss.length ≤ 13 ∧ ∀ s ∈ ss, OkS ss.length s) ?_ ?_)
    · refine wp_if (b := decide ((k0 : Int) = 2)) (e_B (e_2 (e_2 rfl rfl i0) rfl (Emb.int.eq (by decide) (k0 : Int) 2))) (fun hb => ?_) (fun hb => wp_next ⟨cs, rfl, by omega, by omega, by rw [q2]; exact q3⟩)
      let ts : List St := [(true, [0, 1]), (true, [2, 1]), (false, [2, 2])]
      refine wp_asgT (t := .lst (ts.map stT)) (e_tLst (e_tCons (e_stT (b := true) (x := 0) (y := 1) rfl rfl rfl) (e_tCons (e_stT (b := true) (x := 2) (y := 1) rfl rfl rfl) (e_tCons (e_stT (b := false) (x := 2) (y := 2) rfl rfl rfl) rfl))) (by show 3 ≤ sizeLine; omega)) ⟨ts, rfl, by decide, by decide, ?_⟩
      intro s hs'
      simp only [ts, List.mem_cons, List.mem_nil_iff, or_false] at hs'
      rcases hs' with rfl | rfl | rfl
      · exact okS_two (by decide) (by decide) _
      · exact okS_two (by decide) (by decide) _
      · exact okS_two (by decide) (by decide) _
    rintro o ⟨ss, rfl, z1, z2, z3⟩
    refine wp_seq (Wp.mono (P := fun o => ∃ (ss : List St) (y6 : Option Cell), o = .nx (E2 ss y6) ∧ 0 < ss.length ∧ ss.length ≤ 13 ∧ ∀ s ∈ ss, OkS ss.length s) ?_ ?_)
    · refine wp_if (b := decide ((k0 : Int) ≥ 4)) (e_B (e_2 (e_2 rfl rfl i0) rfl rfl)) (fun hb => ?_) (fun hb => wp_next ⟨ss, none, rfl, z1, z2, z3⟩)
      have hvw : gAlt (gView (gpVar 5)) (gVar 5) (E2 ss none) = some (.lst (ss.map stD)) := by
        rw [e_viewTA (t := .lst (ss.map stT)) rfl (plainL_st ss)]
        show some (D.lst (VL.T.viewL (ss.map stT))) = _
        rw [viewL_st]
      have hat : k3 % ss.length < ss.length := Nat.mod_lt _ z1
      refine wp_seq (wp_set (d := nD (k3 % ss.length)) (e_2 (e_call (e_cons (e_2 rfl rfl i3) rfl) rfl) (e_lenM (xs := ss) (e := stD) hvw) ?_) ?_)
      · rw [d_mod (by omega)]
        congr 2
      have hst := at_st hat
      have hstT : (ss.map stT)[k3 % ss.length]? = some (stT (ac ss (k3 % ss.length), tg ss (k3 % ss.length))) := by rw [List.getElem?_map, hst]; rfl
      generalize k3 % ss.length = at_ at hat hst hstT
      have hok3 := z3 _ (List.mem_of_getElem? hst)
      generalize ac ss at_ = bb at hst hstT hok3
      generalize tg ss at_ = tt at hst hstT hok3
      refine wp_pSet2 (ts := ss.map stT) (us := [.leaf (.bl bb), .lst (tt.map fun t => .leaf (nD t))]) (k := at_) (k2 := 0) (x := .leaf (.bl (!bb))) rfl rfl hstT rfl (by show 0 < 2; decide) (e_leaf (e_bl (e_not (e_B (e_leaf2 (ts := ss.map stT) (us := [.leaf (.bl bb), .lst (tt.map fun t => .leaf (nD t))]) (k := at_) (k2 := 0) rfl rfl hstT rfl rfl))))) ?_
      refine ⟨ss.set at_ (!bb, tt), some (.fz (nD at_)), ?_, by simp; exact z1, by simp; exact z2, ?_⟩
      · simp only [E2]
        rw [show (ss.set at_ (!bb, tt)).map stT = (ss.map stT).set at_ (stT (!bb, tt)) by rw [List.map_set]]; rfl
      · intro s hs'
        rw [List.length_set]
        rcases List.mem_or_eq_of_mem_set hs' with q | q
        · exact z3 s q
        · rw [q]; exact ⟨hok3.1, hok3.2⟩
    rintro o ⟨ss, y6, rfl, z1, z2, z3⟩
    refine wp_frzT (t := .lst (ss.map stT)) rfl (plainL_st ss) ?_
    refine wp_ret (d := .lst (ss.map stD)) ?_ ⟨_, rfl, ss, rfl, net_of z1 (by omega) z3, z2⟩
    show some (D.lst (VL.T.viewL (ss.map stT))) = _
    rw [viewL_st]
  obtain ⟨d, h1, ss, rfl, h2⟩ := key
  exact ⟨ss, h1, h2⟩
end K77
end

section
/-! K77V: the law's classes, its texts, another alphabet. -/
namespace K77
open PySem PySem.Spec PyProof.Rows L2 VL
variable (A : Ad)
variable {ss : List St}
theorem ss_range (ss : List St) : ss = (List.range ss.length).map fun k => ((ac ss k, tg ss k) : St) := by
  apply List.ext_getElem?
  intro i
  rw [List.getElem?_map]
  by_cases h : i < ss.length
  · rw [at_st h, List.getElem?_range h]; rfl
  · rw [List.getElem?_eq_none (by omega), List.getElem?_eq_none (by simp; omega)]; rfl
theorem two_of {l : List Nat} (h : l.length = 2) : ∃ a b, l = [a, b] := by
  match l, h with
  | [a, b], _ => exact ⟨a, b, rfl⟩
abbrev K3 := Nat × Nat × Nat
abbrev k3D (x : K3) : D := .tup [nD x.1, nD x.2.1, nD x.2.2]
theorem law_classes_run (n : Net 2 ss) : ∃ cl : Nat → Nat, m__law_classes A [.lst (ss.map stD)] = some (.val (.lst ((List.range ss.length).map fun k => nD (cl k)))) ∧ ∀ s, s < ss.length → ∀ t, t < ss.length → (cl s = cl t ↔ Bis ss s t) := by
  have key : ∃ d, m__law_classes A [.lst (ss.map stD)] = some (.val d) ∧ ∃ cl : Nat → Nat, d = .lst ((List.range ss.length).map fun k => nD (cl k)) ∧ ∀ s, s < ss.length → ∀ t, t < ss.length → (cl s = cl t ↔ Bis ss s t) := by
    refine m_ex rfl ?_
    have hs : 1000000 ≤ sizeLine := by unfold sizeLine; omega
    have hf := n.few
    let S := List.range ss.length
    have hS : ∀ s ∈ S, s < ss.length := fun s h => by simpa [S] using h
    have hSm : ∀ s, s < ss.length → s ∈ S := fun s h => by simpa [S] using h
    have hcS : ∀ s ∈ S, ∀ t ∈ tg ss s, t ∈ S := fun s h t ht => hSm t (n.tgt s (hS s h) t ht)
    refine wp_seq (wp_set (d := .lst (S.map fun k => nD (if ac ss k then 1 else 0))) ?_ ?_)
    · have e0 : ss.map stD = S.map fun k => stD (ac ss k, tg ss k) := by
        have := congrArg (List.map stD) (ss_range ss)
        rw [List.map_map] at this
        exact this
      refine e_lst (e_lc (e := fun k => stD (ac ss k, tg ss k)) (h := fun k => nD (if ac ss k then 1 else 0)) (xs := S) (e_items (d := .lst (ss.map stD)) rfl (by rw [e0]; rfl)) (by simp [S]; omega) fun k _ => ⟨_, rfl, e_call (e_cons (e_2 rfl rfl rfl) rfl) ?_⟩)
      cases ac ss k <;> rfl
    refine wp_seq (wp_for (ds := rgD 0 (ss.length + 1)) (e_rg1 (n := ((ss.length + 1 : Nat) : Int)) (e_cons (e_2 (e_lenM (xs := ss) (e := stD) rfl) rfl ?_) rfl) (by omega) (by omega)) ?_)
    · show some (D.int ((ss.length : Int) + 1)) = some (D.int ((ss.length + 1 : Nat) : Int))
      congr 2
    let E : (Nat → Nat) → Option Cell → Option Cell → VL.Env := fun cl y2 y3 => [some (.fz (.lst (ss.map stD))), some (.fz (.lst (S.map fun k => nD (cl k)))), y2, y3, none, none, none]
    refine wpl_rg (fun j c => ∃ (cl : Nat → Nat) (y2 y3 : Option Cell), c = E cl y2 y3 ∧ (∀ s ∈ S, ∀ t ∈ S, (cl s = cl t ↔ Eq' ss j s t)) ∧ ((∀ s ∈ S, ∀ t ∈ S, Eq' ss j s t → Bis ss s t) ∨ j + 1 ≤ (dd (S.map cl)).length)) ?_ ?_ ?_
    · refine ⟨fun k => if ac ss k then 1 else 0, none, none, rfl, fun s _ t _ => ?_, .inr ?_⟩
      · show (if ac ss s then 1 else 0) = (if ac ss t then 1 else 0) ↔ ac ss s = ac ss t
        cases ac ss s <;> cases ac ss t <;> simp
      · exact List.length_pos_of_mem (dd_mem.mpr (List.mem_map.mpr ⟨0, hSm 0 n.ne, rfl⟩))
    · rintro j c hj ⟨cl, y2, y3, rfl, hcl, hst⟩
      refine ⟨_, rfl, ?_⟩
      let k3 : Nat → K3 := fun k => (cl k, cl ((tg ss k).getD 0 0), cl ((tg ss k).getD 1 0))
      let ky : Nat → Ky := fun s => (cl s, (tg ss s).map cl)
      have hk : ∀ s ∈ S, ∀ t ∈ S, (k3 s = k3 t ↔ ky s = ky t) := by
        intro s hs' t ht
        obtain ⟨a, b, e1⟩ := two_of (n.len s (hS s hs'))
        obtain ⟨a', b', e2⟩ := two_of (n.len t (hS t ht))
        show ((cl s, cl ((tg ss s).getD 0 0), cl ((tg ss s).getD 1 0)) : K3) = (cl t, cl ((tg ss t).getD 0 0), cl ((tg ss t).getD 1 0)) ↔ ((cl s, (tg ss s).map cl) : Ky) = (cl t, (tg ss t).map cl)
        rw [e1, e2]
        simp
      have hkey : ∀ s ∈ S, ∀ t ∈ S, (k3 s = k3 t ↔ Eq' ss (j + 1) s t) := fun s hs' t ht => (hk s hs' t ht).trans (key_iff n hS hcS hcl hs' ht)
      have hclat : ∀ t, t < ss.length → dIx (.lst (S.map fun k => nD (cl k))) (nD t) = some (nD (cl t)) := fun t ht => ix_map (e := fun k => nD (cl k)) (xs := S) (k := t) (x := t) rfl (List.getElem?_range ht)
      refine wp_seq (wp_set (d := .lst ((S.map k3).map k3D)) ?_ ?_)
      · rw [List.map_map]
        refine e_lst (e_lc (e := nD) (h := fun k => k3D (k3 k)) (xs := S) (by rw [← rg_nD]; exact e_rgM (xs := ss) (e := stD) rfl (by omega)) (by simp [S]; omega) fun k hk' => ⟨_, rfl, ?_⟩)
        have hkl := hS k hk'
        have hst := at_st hkl
        obtain ⟨a, b, e1⟩ := two_of (n.len k hkl)
        have ha : a < ss.length := n.tgt k hkl a (by rw [e1]; simp)
        have hb : b < ss.length := n.tgt k hkl b (by rw [e1]; simp)
        have hrow : dIx (.lst (ss.map stD)) (nD k) = some (stD (ac ss k, [a, b])) := by
          have := ix_map (d := .lst (ss.map stD)) (e := stD) (xs := ss) (k := k) rfl hst
          rw [e1] at this
          exact this
        have hk3 : k3 k = (cl k, cl a, cl b) := by
          show ((cl k, cl ((tg ss k).getD 0 0), cl ((tg ss k).getD 1 0)) : K3) = _
          rw [e1]; rfl
        rw [hk3]
        exact e_tup (e_cons (e_2 rfl rfl (hclat k hkl)) (e_cons (e_2 rfl (e_2 (e_2 (e_2 rfl rfl hrow) rfl rfl) rfl rfl) (hclat a ha)) (e_cons (e_2 rfl (e_2 (e_2 (e_2 rfl rfl hrow) rfl rfl) rfl rfl) (hclat b hb)) rfl))) (by show 3 ≤ sizeLine; omega)
      have hin : ∀ s ∈ S, k3 s ∈ S.map k3 := fun s h => List.mem_map.mpr ⟨s, h, rfl⟩
      generalize hKL : S.map k3 = KL at hin
      have hKLl : KL.length = ss.length := by rw [← hKL]; simp [S]
      refine wp_set (d := .lst (S.map fun k => nD (pos (k3 k) KL))) ?_ ?_
      · have e0 : KL.map k3D = S.map fun k => k3D (k3 k) := by rw [← hKL, List.map_map]; rfl
        refine e_lst (e_lc (e := fun k => k3D (k3 k)) (h := fun k => nD (pos (k3 k) KL)) (xs := S) (e_items (d := .lst (KL.map k3D)) rfl (by rw [e0]; rfl)) (by simp [S]; omega) fun k hk' => ⟨_, rfl, e_2 rfl rfl ?_⟩)
        exact (Emb.triple Emb.nat Emb.nat Emb.nat).idxD (by decide) (pos_at (hin k hk')).2
      · have hnew : ∀ s ∈ S, ∀ t ∈ S, (pos (k3 s) KL = pos (k3 t) KL ↔ Eq' ss (j + 1) s t) := fun s hs' t ht => by
          rw [← hkey s hs' t ht]
          exact ⟨pos_inj (hin s hs') (hin t ht), fun e => by rw [e]⟩
        refine ⟨fun k => pos (k3 k) KL, _, _, rfl, hnew, ?_⟩
        rcases hst with h | h
        · exact .inl fun s hs' t ht q => h s hs' t ht q.1
        · have hv := vcount (f := cl) (g := fun k => pos (k3 k) KL) S (fun s hs' t ht e => (hcl s hs' t ht).mpr ((hnew s hs' t ht).mp e).1)
          by_cases q : (dd (S.map fun k => pos (k3 k) KL)).length ≤ (dd (S.map cl)).length
          · have hsame := hv.2 q
            have hb := stable (j := j) hcS fun s hs' t ht e => (hnew s hs' t ht).mp (hsame s hs' t ht ((hcl s hs' t ht).mpr e))
            exact .inl fun s hs' t ht e => hb s hs' t ht e.1
          · exact .inr (by omega)
    · rintro c ⟨cl, y2, y3, rfl, hcl, hst⟩
      have hb : ∀ s ∈ S, ∀ t ∈ S, Eq' ss (ss.length + 1) s t → Bis ss s t := by
        rcases hst with h | h
        · exact h
        · have h1 : (dd (S.map cl)).length ≤ ss.length := Nat.le_trans (dd_len _) (by simp [S])
          omega
      exact wp_ret (d := .lst (S.map fun k => nD (cl k))) rfl ⟨_, rfl, cl, rfl, fun s hs' t ht => (hcl s (hSm s hs') t (hSm t ht)).trans ⟨hb s (hSm s hs') t (hSm t ht), fun q => q _⟩⟩
  obtain ⟨d, h1, cl, rfl, h2⟩ := key
  exact ⟨cl, h1, h2⟩
/-! texts -/
def Half (x : List Lt) : Bool := decide (x = abT (x.length / 2) (x.length / 2))
theorem half_at {c : VL.Env} {g : GE} {x : List Lt} (h : g c = some (alD x)) (hl : x.length ≤ 2000) : VL.g2 dFdiv (gCall fLen (VL.gCons g VL.gNil)) (gC (.int 2)) c = some (nD (x.length / 2)) := by
  have hs : 1000000 ≤ sizeLine := by unfold sizeLine; omega
  refine e_2 (e_call (e_cons h rfl) (len_al (x := x) (by omega))) rfl ?_
  rw [d_fdiv (by decide) (by decide)]
  congr 2
theorem belongs_run (x : List Lt) (hl : x.length ≤ 2000) : m__law_belongs A [alD x] = some (.val (.bl (Half x))) ∧ m_in_same_counts A [alD x] = some (.val (.bl (Half x))) := by
  constructor
  · refine m_val rfl ?_
    refine wp_seq (wp_set (half_at rfl hl) ?_)
    exact wp_ret (d := .bl (Half x)) (e_2 rfl (e_abT rfl rfl (by omega) (by omega)) (Emb.tx.eq (by decide) x _)) rfl
  · refine m_val rfl ?_
    refine wp_seq (wp_set (half_at rfl hl) ?_)
    exact wp_ret (d := .bl (Half x)) (e_2 rfl (e_abT rfl rfl (by omega) (by omega)) (Emb.tx.eq (by decide) x _)) rfl
theorem bool_eq (a b : Bool) : dEq (.bl a) (.bl b) = some (.bl (a == b)) := by cases a <;> cases b <;> rfl
theorem bool_ne (a b : Bool) : dNe (.bl a) (.bl b) = some (.bl (a != b)) := by cases a <;> cases b <;> rfl
theorem says_run (x : List Lt) (hl : x.length ≤ 2000) : m__law_says A [alD x] = some (.val (.bl true)) := by
  obtain ⟨h1, h2⟩ := belongs_run A x hl
  refine m_val rfl ?_
  refine wp_seq (wp_set (d := .bl (Half x)) (e_fn (ds := [alD x]) rfl h2) ?_)
  refine wp_ret (d := .bl (true && true)) (e_bl (e_and (e_B rfl) fun _ => e_B (e_2 rfl (e_fn (ds := [alD x]) rfl h1) ((bool_eq _ _).trans (by simp))))) rfl
/-! another alphabet -/
abbrev abc : List Lt := [97, 98, 99]
theorem other_run (out : List St) : m_beat_same_counts A [auD A abc out] = some (.exn A.C_AlphabetsDiffer ["two", "one"] [.str "ab", alD abc]) := by
  refine m_val rfl ?_
  refine wp_seq (wp_callX_ex (ds := [auD A abc out, .str "ab"]) rfl (C := A.C_AlphabetsDiffer) (ns := ["two", "one"]) (es := [.str "ab", alD abc]) ?_ rfl)
  refine m_val rfl ?_
  refine wp_ift (e_B (e_2 (e_fld (d := alD abc) rfl rfl) rfl ?_)) (wp_raise2 (e_cons (e_fld (d := alD abc) rfl rfl) rfl) rfl)
  have := Emb.tx.ne (by decide) abc ab
  rw [show alD ab = D.str "ab" from rfl] at this
  rw [this]; rfl
theorem differs_run : m__law_differs A [] = some (.val (.bl true)) := by
  have hs : 1000000 ≤ sizeLine := by unfold sizeLine; omega
  let ss : List St := [(true, [0, 0, 0])]
  let u : St → D := fun s => .tup [.bl s.1, .lst (s.2.map nD)]
  have hn : Net 3 ss := ⟨by decide, by decide, by decide, fun s hs => by
    have : s = 0 := by simp [ss] at hs; exact hs
    subst this; rfl, fun s hs t ht => by
    have : s = 0 := by simp [ss] at hs; exact hs
    subst this
    have : t = 0 := by simpa [tg, ss] using ht
    rw [this]; decide⟩
  obtain ⟨out, ord, num, h1, -, -⟩ := make_run A (al := abc) (u := u) rfl rfl hn (fun _ => rfl) (fun _ => rfl)
  refine m_val rfl ?_
  refine wp_seq (wp_tryG_ex (c1 := [none]) (ns := ["two", "one"]) (es := [.str "ab", alD abc]) (y_exprX (x_callR (ds := [auD A abc out]) (e_cons (e_make (ds := [alD abc, .lst (ss.map u)]) (e_cons rfl (e_cons ?_ rfl)) h1) rfl) (other_run A out))) rfl ?_)
  · refine e_lst (e_ln (e_cons (e_tup (e_cons rfl (e_cons (e_lst (e_ln (xs := [nD 0, nD 0, nD 0]) rfl (by show 3 ≤ sizeLine; omega))) rfl)) (by show 2 ≤ sizeLine; omega)) rfl) (by show 1 ≤ sizeLine; omega))
  · refine wp_ret (d := .bl (true && (true && true))) (e_bl (e_and (e_B (e_isX rfl)) fun _ => e_B (e_bl (e_and (e_B (e_2 (e_xf rfl rfl) (y := .str "abc") rfl (z := .bl true) ?_)) fun _ => e_B (e_2 (e_xf rfl rfl) rfl (z := .bl true) ?_))))) ⟨_, rfl, rfl⟩
    · have := Emb.tx.eq (by decide) abc abc
      rw [decide_eq_true rfl] at this
      exact this
    · have := Emb.tx.eq (by decide) ab ab
      rw [decide_eq_true rfl] at this
      exact this
end K77
end

section
/-! K77L: the law holds. -/
namespace K77
open PySem PySem.Spec PyProof.Rows L2 VL
variable (A : Ad)
theorem nat_in (x : Nat) (xs : List Nat) : dIn (nD x) (.lst (xs.map nD)) = some (.bl (decide (x ∈ xs))) := by
  have h := in_iD (x : Int) (xs.map fun k : Nat => (k : Int))
  have e1 : iD (xs.map fun k : Nat => (k : Int)) = xs.map nD := by unfold iD; rw [List.map_map]; rfl
  rw [e1] at h
  rw [h]
  congr 2
  refine decide_eq_decide.mpr ⟨fun q => ?_, fun q => List.mem_map.mpr ⟨x, q, rfl⟩⟩
  obtain ⟨y, hy, e⟩ := List.mem_map.mp q
  have : y = x := by omega
  rw [← this]; exact hy
theorem e_isi {n : String} {c : VL.Env} {g : GE} {b : Bool} (h : g c = some (.bl b)) (hn : dIsi n (.bl b) = some (.bl true)) : gTru (gIsi n g) c = some true := by
  refine e_tru (d := .bl true) ?_ rfl
  show (g c).bind (dIsi n) = _
  rw [h]; exact hn
abbrev szR : List Int := [9, 9, 3, 20]
theorem text_eq (x y : List Lt) : dNe (alD x) (alD y) = some (.bl (!decide (x = y))) := Emb.tx.ne (by decide) x y
theorem abT_half (i j : Nat) : Half (abT i j) = decide (i = j) := by
  unfold Half
  rw [abT_len]
  refine decide_eq_decide.mpr ⟨fun h => ?_, fun h => ?_⟩
  · have h1 := congrArg (List.count 97) h
    have h2 := congrArg (List.count 98) h
    unfold abT at h1 h2
    simp [List.count_append, List.count_replicate] at h1 h2
    omega
  · subst h
    rw [show (i + i) / 2 = i by omega]
theorem law_run (xs : List Int) : m_law A [.scr (iD xs)] = some (.val (.bl true)) := by
  refine m_val rfl ?_
  have hs : 1000000 ≤ sizeLine := by unfold sizeLine; omega
  obtain ⟨ss, s1, n, hlen⟩ := states_run A xs
  obtain ⟨cl, c1, hcl⟩ := law_classes_run A n
  obtain ⟨n1, cc1⟩ := cell_run xs 1 (by omega)
  obtain ⟨row, u1, u2⟩ := dig_run n1 szR (by decide) (by decide)
  obtain ⟨k0, r0, l0⟩ := VL.dig_at u2 (i := 0) rfl
  obtain ⟨k1, r1, l1⟩ := VL.dig_at u2 (i := 1) rfl
  obtain ⟨k2, r2, l2⟩ := VL.dig_at u2 (i := 2) rfl
  obtain ⟨k3, r3, l3⟩ := VL.dig_at u2 (i := 3) rfl
  have i0 : dIx (.lst (iD row)) (.int 0) = some (nD k0) := ix_map (e := D.int) rfl r0
  have i1 : dIx (.lst (iD row)) (.int 1) = some (nD k1) := ix_map (e := D.int) rfl r1
  have i2 : dIx (.lst (iD row)) (.int 2) = some (nD k2) := ix_map (e := D.int) rfl r2
  have i3 : dIx (.lst (iD row)) (.int 3) = some (nD k3) := ix_map (e := D.int) rfl r3
  obtain ⟨out, ord, num, a1, o, l⟩ := make_run A (al := ab) (u := stD) (halp A) rfl n stD0 stD1
  have h0 : 0 ∈ ord := List.mem_of_getElem? o.hd
  have hord : ∀ k, sA ss k ∈ ord := fun k => rd_ord n o _ 0 h0
  have hlt : ∀ k, sA ss k < ss.length := fun k => o.lt _ (hord k)
  obtain ⟨i, j, rep, hi⟩ := rep_ex (x := fun k => cl (sA ss k)) (m := (List.range ss.length).map cl) fun k => List.mem_map.mpr ⟨sA ss k, by simpa using hlt k, rfl⟩
  simp at hi
  have rep2 : Rep (fun k => num (sA ss k)) i j := rep.of fun a b _ _ => (hcl _ (hlt a) _ (hlt b)).trans (l.eqv _ (hord a) _ (hord b)).symm
  have hj := rep.lt
  have b1 := beat_run A n o l rep2 (by omega)
  have hbis : Bis ss (sA ss i) (sA ss j) := (hcl _ (hlt i) _ (hlt j)).mp rep.eq
  have htk : ∀ x : List Lt, (∀ c ∈ x, c ∈ ab) → m__law_takes A [.lst (ss.map stD), alD x] = some (.val (.bl (ac ss (rd ss 0 x)))) := fun x hx => takes_run A n hx stD0 stD1
  have hsame : ac ss (rd ss 0 (abT i j)) = ac ss (rd ss 0 (abT j j)) := by
    have e1 : rd ss 0 (abT i j) = rd ss (sA ss i) (List.replicate j 98) := by unfold abT; rw [rd_app]; rfl
    have e2 : rd ss 0 (abT j j) = rd ss (sA ss j) (List.replicate j 98) := by unfold abT; rw [rd_app]; rfl
    rw [e1, e2]
    exact bis_ac (bis_rd n _ _ _ (hlt i) (hlt j) hbis)
  refine wp_seq (wp_set (d := .lst (ss.map stD)) (e_fn (ds := [.scr (iD xs)]) rfl s1) ?_)
  refine wp_seq (wp_set (d := .lst ((List.range ss.length).map fun k => nD (cl k))) (e_fn (ds := [.lst (ss.map stD)]) rfl c1) ?_)
  refine wp_seq (wp_asgN (ds := ([] : List Nat).map nD) rfl ?_)
  refine wp_seq (wp_set (d := nD 0) rfl ?_)
  let q : Nat → Nat := fun k => cl (sA ss k)
  let E : Nat → Option Cell → VL.Env := fun a y5 => [some (.fz (.scr (iD xs))), some (.fz (.lst (ss.map stD))), some (.fz (.lst ((List.range ss.length).map fun k => nD (cl k)))), some (.own (((List.range a).map q).map nD)), some (.fz (nD (sA ss a))), y5, none, none, none, none, none, none, none]
  have hclat : ∀ t, t < ss.length → dIx (.lst ((List.range ss.length).map fun k => nD (cl k))) (nD t) = some (nD (cl t)) := fun t ht => ix_map (e := fun k => nD (cl k)) (xs := List.range ss.length) (k := t) (x := t) rfl (List.getElem?_range ht)
  have hmem : ∀ a, a ≤ i → (q a ∈ (List.range a).map q ↔ a = i) := by
    intro a ha
    constructor
    · intro h
      obtain ⟨b, hb, e⟩ := List.mem_map.mp h
      have hb' : b < a := by simpa using hb
      by_cases hai : a = i
      · exact hai
      · exact absurd e (rep.no b a hb' (by omega))
    · rintro rfl
      exact List.mem_map.mpr ⟨j, by simpa using hj, rep.eq.symm⟩
  refine wp_seq (Wp.mono (P := fun o => ∃ y5, o = .nx (E i y5)) ?_ ?_)
  · refine wp_for (ds := rgD 0 (ss.length + 1)) (e_rg1 (n := ((ss.length + 1 : Nat) : Int)) (e_cons (e_2 (e_lenM (xs := ss) (e := stD) rfl) rfl ?_) rfl) (by omega) (by omega)) ?_
    · show some (D.int ((ss.length : Int) + 1)) = some (D.int ((ss.length + 1 : Nat) : Int))
      congr 2
    refine wpl_rg (fun k c => ∃ y5, c = E k y5 ∧ k ≤ i) ⟨none, rfl, Nat.zero_le _⟩ ?_ ?_
    · rintro a c ha ⟨y5, rfl, hai⟩
      refine ⟨_, rfl, ?_⟩
      refine wp_seq (wp_if (b := decide (q a ∈ (List.range a).map q)) (e_B (e_2 (e_2 rfl rfl (hclat _ (hlt a))) rfl (nat_in (q a) _))) (fun hb => wp_break ?_) (fun hb => wp_next ?_))
      · have e := (hmem a hai).mp (of_decide_eq_true hb)
        subst e
        exact ⟨_, rfl⟩
      · have hni : ¬ q a ∈ (List.range a).map q := of_decide_eq_false hb
        have hlt2 : a < i := by
          have : ¬ a = i := fun e => hni ((hmem a hai).mpr e)
          omega
        refine wp_seq (wp_append (ds := ((List.range a).map q).map nD) (d := nD (q a)) rfl (e_2 rfl rfl (hclat _ (hlt a))) (by simp; omega) ?_)
        have hst := at_st (hlt a)
        have hnx := (nx_at n (hlt a) 97).1
        refine wp_set (d := nD (sA ss (a + 1))) (e_2 (e_2 (e_2 rfl rfl (ix_map (e := stD) (xs := ss) (k := sA ss a) rfl hst)) rfl rfl) rfl ?_) ⟨some (.fz (nD a)), ?_, by omega⟩
        · show dIx (.lst ((tg ss (sA ss a)).map nD)) (.int ((0 : Nat) : Int)) = _
          rw [sA_succ]
          exact ix_map (e := nD) (xs := tg ss (sA ss a)) (k := 0) rfl hnx
        · simp only [E]
          rw [List.range_succ, List.map_append, List.map_append]; rfl
    · rintro c ⟨y5, rfl, hai⟩
      omega
  rintro _ ⟨y5, rfl⟩
  have hnd : ((List.range i).map q).Nodup := map_nodup rep.no
  have hpj : pos (q i) ((List.range i).map q) = j := by
    have e : q i = q j := rep.eq
    rw [e]; exact pos_range hnd hj
  have hin : q i ∈ (List.range i).map q := (hmem i (Nat.le_refl _)).mpr rfl
  have hfind := (pos_at hin).2
  rw [hpj] at hfind
  generalize hMM : (List.range i).map q = MM at hfind
  have hMl : MM.length = i := by rw [← hMM]; simp
  show Wp _ _ _
  refine wp_seq (wp_set (d := nD j) (e_2 rfl (e_2 rfl rfl (hclat _ (hlt i))) ?_) ?_)
  · show dIdxD (.lst (((List.range i).map q).map nD)) (nD (q i)) = _
    rw [hMM]
    exact Emb.nat.idxD (by decide) hfind
  refine wp_seq (wp_set (d := alD (abT j j)) (e_abT rfl rfl (by omega) (by omega)) ?_)
  generalize hT : ac ss (rd ss 0 (abT j j)) = tk at b1 hsame
  let due : List Lt := if tk then abT i j else abT j j
  have hdue : due = if tk then abT i j else abT j j := rfl
  have hdl : due.length ≤ 800 := by rw [hdue]; cases tk <;> simp [abT_len] <;> omega
  have hdab : ∀ c ∈ due, c ∈ ab := by rw [hdue]; cases tk <;> exact abT_ab _ _
  have hdt : ac ss (rd ss 0 due) = tk := by
    rw [hdue]
    cases tk
    · exact hT
    · exact hsame
  have hdh : Half due = !tk := by
    rw [hdue]
    cases tk
    · show Half (abT j j) = true
      rw [abT_half]; simp
    · show Half (abT i j) = false
      rw [abT_half, decide_eq_false (by omega)]
  have hb : (if tk = true then bD A (abT i j) true false else bD A (abT j j) false true) = bD A due tk (!tk) := by rw [hdue]; cases tk <;> rfl
  rw [hb] at b1
  have hlenM : ∀ c : VL.Env, gLook 3 c = some (.lst (((List.range i).map q).map nD)) → gCall fLen (VL.gCons (gLook 3) VL.gNil) c = some (nD i) := fun c hc => by
    have := e_lenM (c := c) (g := gLook 3) (xs := (List.range i).map q) (e := nD) hc
    rw [this]; simp
  refine wp_seq (Wp.mono (P := fun o => o = .nx [some (.fz (.scr (iD xs))), some (.fz (.lst (ss.map stD))), some (.fz (.lst ((List.range ss.length).map fun k => nD (cl k)))), some (.own (((List.range i).map q).map nD)), some (.fz (nD (sA ss i))), y5, some (.fz (nD j)), some (.fz (alD due)), none, none, none, none, none]) ?_ ?_)
  · refine wp_if (b := tk) (e_tru (e_fn (ds := [.lst (ss.map stD), alD (abT j j)]) rfl (htk _ (abT_ab j j))) (by rw [hT]; rfl)) (fun hb => ?_) (fun hb => wp_next ?_)
    · refine wp_set (d := alD (abT i j)) (e_abT (hlenM _ rfl) rfl (by omega) (by omega)) ?_
      rw [hdue, hb]; rfl
    · rw [hdue, hb]; rfl
  rintro _ rfl
  have g1 := htk due hdab
  rw [hdt] at g1
  have g2 := (belongs_run A due (by omega)).1
  rw [hdh] at g2
  generalize due = due at *
  refine wp_seq (wp_set (d := bD A due tk (!tk)) (e_fn (ds := [auD A ab out]) (e_cons (e_make (ds := [alD ab, .lst (ss.map stD)]) (e_cons rfl (e_cons (e_lst (e_lc (e := stD) (h := stD) (xs := ss) (e_items rfl rfl) (by omega) fun s _ => ⟨_, rfl, rfl⟩)) rfl)) a1) rfl) b1) ?_)
  refine wp_seq (wp_iff (e_or (a := false) (b := false) (e_B (e_2 (e_fld rfl rfl) rfl ((text_eq due due).trans (by simp)))) fun _ => e_or (a := false) (b := false) (e_not (a := true) (e_isi (e_fld rfl rfl) rfl)) fun _ => e_not (a := true) (e_isi (e_fld rfl rfl) rfl)) (wp_next ?_))
  refine wp_seq (wp_iff (e_or (a := false) (b := false) (e_B (e_2 (e_fld rfl rfl) (e_fn (ds := [.lst (ss.map stD), alD due]) rfl g1) ((bool_ne _ _).trans (by simp)))) fun _ => e_or (a := false) (b := false) (e_B (e_2 (e_fld rfl rfl) (e_fn (ds := [alD due]) rfl g2) ((bool_ne _ _).trans (by simp)))) fun _ => e_B (e_2 (e_fld rfl rfl) (e_fld rfl rfl) ((bool_eq _ _).trans (by cases tk <;> rfl)))) (wp_next ?_))
  refine wp_seq (wp_set (d := .lst (iD row)) (e_fn (ds := [.int n1, .lst (iD szR)]) (e_cons (e_fn (ds := [.scr (iD xs), .int 1]) rfl cc1) (e_cons (e_lst (e_ln rfl (by show 4 ≤ sizeLine; omega))) rfl)) u1) ?_)
  let tts : List (List Lt) := [due, abT k0 k1, [], (List.replicate k2 ([97, 98] : List Lt)).flatten, [98, 97], [97, 66], [97, 32, 98], [97, 98, 99], [97, 97], [98, 98]]
  have hfl : ((List.replicate k2 ([97, 98] : List Lt)).flatten).length = 2 * k2 := by simp [List.length_flatten, Nat.mul_comm]
  have hstrs : ∀ x ∈ tts, x.length ≤ 800 := by
    intro x hx
    simp only [tts, List.mem_cons, List.mem_nil_iff, or_false] at hx
    rcases hx with rfl | rfl | rfl | rfl | rfl | rfl | rfl | rfl | rfl | rfl
    · exact hdl
    · rw [abT_len]; omega
    · simp
    · rw [hfl]; omega
    · simp
    · simp
    · simp
    · simp
    · simp
    · simp
  refine wp_seq (wp_set (d := .lst (tts.map alD)) (e_lst (e_ln (e_cons rfl (e_cons (e_abT (e_call (e_cons (e_2 rfl rfl i0) rfl) rfl) (e_call (e_cons (e_2 rfl rfl i1) rfl) rfl) (by omega) (by omega)) (e_cons rfl (e_cons (e_2 rfl (e_call (e_cons (e_2 rfl rfl i2) rfl) rfl) (mul_al [97, 98] k2 (by simp; omega) (by omega))) rfl)))) (by show 10 ≤ sizeLine; omega))) ?_)
  generalize tts = tts at hstrs
  refine wp_seq (wp_for (ds := tts.map alD) (e_items (d := .lst (tts.map alD)) rfl rfl) ?_)
  refine wpl_all (fun (done : List (List Lt)) c => ∃ y11, c = [some (.fz (.scr (iD xs))), some (.fz (.lst (ss.map stD))), some (.fz (.lst ((List.range ss.length).map fun k => nD (cl k)))), some (.own (((List.range i).map q).map nD)), some (.fz (nD (sA ss i))), y5, some (.fz (nD j)), some (.fz (alD due)), some (.fz (bD A due tk (!tk))), some (.fz (.lst (iD row))), some (.fz (.lst (tts.map alD))), y11, none]) ⟨none, rfl⟩ ?_ ?_
  · rintro done x rest c qq ⟨y11, rfl⟩
    refine ⟨_, rfl, ?_⟩
    have hx := hstrs x (by rw [qq]; simp)
    have hy : (List.replicate k3 97 ++ x ++ List.replicate k3 98).length ≤ 2000 := by simp; omega
    refine wp_iff (e_or (a := false) (b := false) (e_not (a := true) (e_tru (e_fn (ds := [alD x]) rfl (says_run A x (by omega))) rfl)) fun _ => e_not (a := true) (e_tru (e_fn (ds := [alD (List.replicate k3 97 ++ x ++ List.replicate k3 98)]) (e_cons ?_ rfl) (says_run A _ hy)) rfl)) (wp_next ⟨_, rfl⟩)
    exact e_2 (e_2 (e_2 rfl (e_call (e_cons (e_2 rfl rfl i3) rfl) rfl) (mul_a k3 (by omega))) rfl (add_al (by simp; omega))) (e_2 rfl (e_call (e_cons (e_2 rfl rfl i3) rfl) rfl) (mul_b k3 (by omega))) (add_al (by simp; omega))
  · rintro c ⟨y11, rfl⟩
    exact wp_ret (d := .bl true) (e_fn (ds := []) rfl (differs_run A)) rfl
end K77
end

section
namespace K77
open PySem PySem.Spec PyProof.Rows L2 VL

/-- what the top has written -/
structure Txt (w : World) (K : PySem.W.Frag) (mg : Str → Option Value) (A : Ad) : Prop where

  b_bool : mg "bool" = none

  b_enumerate : mg "enumerate" = none

  b_int : mg "int" = none

  b_isinstance : mg "isinstance" = none

  b_len : mg "len" = none

  b_list : mg "list" = none

  b_range : mg "range" = none

  b_tuple : mg "tuple" = none

  k_AB : ∃ u, mg "AB" = some u ∧ RelV (.str "ab") u

  k_LETTERS : ∃ u, mg "LETTERS" = some u ∧ RelV (.str "abcdefghijklmnopqrstuvwxyz") u

  c_Automaton : Cls K A.C_Automaton

  n_Automaton_alphabet : NoAttr K A.C_Automaton "alphabet"

  n_Automaton_states : NoAttr K A.C_Automaton "states"

  c_Beaten : Cls K A.C_Beaten

  n_Beaten_text : NoAttr K A.C_Beaten "text"

  n_Beaten_taken : NoAttr K A.C_Beaten "taken"

  n_Beaten_belongs : NoAttr K A.C_Beaten "belongs"

  g_AlphabetsDiffer : mg "AlphabetsDiffer" = some (.ref A.C_AlphabetsDiffer)

  e_AlphabetsDiffer : PySem.W.exmOne K (.ref A.C_AlphabetsDiffer) (.ref A.C_AlphabetsDiffer) = some true

  y_AlphabetsDiffer : IsxC K A.C_AlphabetsDiffer

  x_AlphabetsDiffer : XfC K A.C_AlphabetsDiffer

  xn_AlphabetsDiffer_one : PySem.W.findIn K (.ref A.C_AlphabetsDiffer) "one" = some none

  xn_AlphabetsDiffer_two : PySem.W.findIn K (.ref A.C_AlphabetsDiffer) "two" = some none

  g_LeashError : mg "LeashError" = some (.ref A.C_LeashError)

  q_AlphabetsDiffer_LeashError : PySem.W.kitOne K (.ref A.C_AlphabetsDiffer) (.ref A.C_LeashError) = some true

  x_AlphabetsDiffer_AlphabetsDiffer : PySem.W.exmOne K (.ref A.C_AlphabetsDiffer) (.ref A.C_AlphabetsDiffer) = some true

theorem sc_is_whole : FnScope N_is_whole ["value"] (defScope s_is_whole) := ⟨rfl, rfl, rfl, by decide +kernel, rfl, by decide +kernel, by decide +kernel⟩

theorem sc_is_alphabet : FnScope N_is_alphabet ["value"] (defScope s_is_alphabet) := ⟨rfl, rfl, rfl, by decide +kernel, rfl, by decide +kernel, by decide +kernel⟩

theorem sc_check_alphabet : FnScope N_check_alphabet ["alphabet"] (defScope s_check_alphabet) := ⟨rfl, rfl, rfl, by decide +kernel, rfl, by decide +kernel, by decide +kernel⟩

theorem sc_first_stranger : FnScope N_first_stranger ["alphabet", "text"] (defScope s_first_stranger) := ⟨rfl, rfl, rfl, by decide +kernel, rfl, by decide +kernel, by decide +kernel⟩

theorem sc_reached_states : FnScope N_reached_states ["states"] (defScope s_reached_states) := ⟨rfl, rfl, rfl, by decide +kernel, rfl, by decide +kernel, by decide +kernel⟩

theorem sc_classes_of : FnScope N_classes_of ["states", "order"] (defScope s_classes_of) := ⟨rfl, rfl, rfl, by decide +kernel, rfl, by decide +kernel, by decide +kernel⟩

theorem sc_least_form : FnScope N_least_form ["states"] (defScope s_least_form) := ⟨rfl, rfl, rfl, by decide +kernel, rfl, by decide +kernel, by decide +kernel⟩

theorem sc_is_state : FnScope N_is_state ["state", "letters", "many"] (defScope s_is_state) := ⟨rfl, rfl, rfl, by decide +kernel, rfl, by decide +kernel, by decide +kernel⟩

theorem sc_state_of : FnScope N_state_of ["alphabet", "states", "text"] (defScope s_state_of) := ⟨rfl, rfl, rfl, by decide +kernel, rfl, by decide +kernel, by decide +kernel⟩

theorem sc_Automaton_init : FnScope N_Automaton_init ["self", "alphabet", "states"] (defScope s_Automaton_init) := ⟨rfl, rfl, rfl, by decide +kernel, rfl, by decide +kernel, by decide +kernel⟩

theorem sc_Automaton_contains : FnScope N_Automaton_contains ["self", "text"] (defScope s_Automaton_contains) := ⟨rfl, rfl, rfl, by decide +kernel, rfl, by decide +kernel, by decide +kernel⟩

theorem sc_Beaten_init : FnScope N_Beaten_init ["self", "text", "taken", "belongs"] (defScope s_Beaten_init) := ⟨rfl, rfl, rfl, by decide +kernel, rfl, by decide +kernel, by decide +kernel⟩

theorem sc_check_alphabet_is : FnScope N_check_alphabet_is ["thing", "alphabet"] (defScope s_check_alphabet_is) := ⟨rfl, rfl, rfl, by decide +kernel, rfl, by decide +kernel, by decide +kernel⟩

theorem sc_in_same_counts : FnScope N_in_same_counts ["text"] (defScope s_in_same_counts) := ⟨rfl, rfl, rfl, by decide +kernel, rfl, by decide +kernel, by decide +kernel⟩

theorem sc_first_twins : FnScope N_first_twins ["automaton"] (defScope s_first_twins) := ⟨rfl, rfl, rfl, by decide +kernel, rfl, by decide +kernel, by decide +kernel⟩

theorem sc_beat_same_counts : FnScope N_beat_same_counts ["automaton"] (defScope s_beat_same_counts) := ⟨rfl, rfl, rfl, by decide +kernel, rfl, by decide +kernel, by decide +kernel⟩

theorem sc__law_cell : FnScope N__law_cell ["script", "k"] (defScope s__law_cell) := ⟨rfl, rfl, rfl, by decide +kernel, rfl, by decide +kernel, by decide +kernel⟩

theorem sc__law_digits : FnScope N__law_digits ["cell", "sizes"] (defScope s__law_digits) := ⟨rfl, rfl, rfl, by decide +kernel, rfl, by decide +kernel, by decide +kernel⟩

theorem sc__law_counting : FnScope N__law_counting ["many"] (defScope s__law_counting) := ⟨rfl, rfl, rfl, by decide +kernel, rfl, by decide +kernel, by decide +kernel⟩

theorem sc__law_states : FnScope N__law_states ["script"] (defScope s__law_states) := ⟨rfl, rfl, rfl, by decide +kernel, rfl, by decide +kernel, by decide +kernel⟩

theorem sc__law_takes : FnScope N__law_takes ["states", "text"] (defScope s__law_takes) := ⟨rfl, rfl, rfl, by decide +kernel, rfl, by decide +kernel, by decide +kernel⟩

theorem sc__law_classes : FnScope N__law_classes ["states"] (defScope s__law_classes) := ⟨rfl, rfl, rfl, by decide +kernel, rfl, by decide +kernel, by decide +kernel⟩

theorem sc__law_belongs : FnScope N__law_belongs ["text"] (defScope s__law_belongs) := ⟨rfl, rfl, rfl, by decide +kernel, rfl, by decide +kernel, by decide +kernel⟩

theorem sc__law_says : FnScope N__law_says ["text"] (defScope s__law_says) := ⟨rfl, rfl, rfl, by decide +kernel, rfl, by decide +kernel, by decide +kernel⟩

theorem sc__law_differs : FnScope N__law_differs [] (defScope s__law_differs) := ⟨rfl, rfl, rfl, by decide +kernel, rfl, by decide +kernel, by decide +kernel⟩

theorem sc_law : FnScope N_law ["script"] (defScope s_law) := ⟨rfl, rfl, rfl, by decide +kernel, rfl, by decide +kernel, by decide +kernel⟩

section
variable {P : Program} {w : World} {K : PySem.W.Frag} {mg : Str → Option Value} {base : Heap} {A : Ad}

theorem ok_is_whole (T : Txt w K mg A)  {f : Addr} {fd : FuncData} (F : Fun K "is_whole" "is_whole" s_is_whole f fd) (hm : mg "is_whole" = some (.ref f)) (b : Binds K fd ["value"] []) :
    CalX P w K mg base CX0 1 "is_whole" (spP (kw K w A.cls) (m_is_whole A)) :=
  ⟨f, fd, ["value"], F.ok sc_is_whole (spP_len fun ds r h => (mOf_len h).1) (fun cdv A' outer s H vs Q E hr h => by
    refine ⟨_, (pss_one (ps_ret (pe_and (pe_callB (r := rIsi K) call_isi (by rfl) T.b_isinstance (by decide +kernel) (pa_cons (pv 0) (pa_cons (pe_bltn (v := .ty "int") (u := .type "int") (by rfl) T.b_int (by decide +kernel) rfl) pa_nil))) (pe_one (pe_not (pe_callB (r := rIsi K) call_isi (by rfl) T.b_isinstance (by decide +kernel) (pa_cons (pv 0) (pa_cons (pe_bltn (v := .ty "bool") (u := .type "bool") (by rfl) T.b_bool (by decide +kernel) rfl) pa_nil)))))))), run_def (E := E) rfl (fun W0 => ?_) h⟩
    exact (vs_ret (vt_andV (b1 := false) (b2 := false) (vt_isi (n := "int") (b1 := false) (vt_look 0)) (vt_notV (b1 := false) (vt_isi (n := "bool") (b1 := false) (vt_look 0)))))), hm, F.kp, b⟩

theorem ok_is_alphabet (T : Txt w K mg A)  {f : Addr} {fd : FuncData} (F : Fun K "is_alphabet" "is_alphabet" s_is_alphabet f fd) (hm : mg "is_alphabet" = some (.ref f)) (b : Binds K fd ["value"] []) :
    CalX P w K mg base CX0 1 "is_alphabet" (spP (kw K w A.cls) (m_is_alphabet A)) :=
  ⟨f, fd, ["value"], F.ok sc_is_alphabet (spP_len fun ds r h => (mOf_len h).1) (fun cdv A' outer s H vs Q E hr h => by
    refine ⟨_, (pss_cons (ps_if (pt_not (pt_chain op_leU op_leU pe_int (pe_callB (r := rLenU K w) call_lenU (by rfl) T.b_len PySem.boot_len (pa_cons (pv 0) pa_nil)) pe_int)) (pss_one (ps_ret pe_bl)) pss_nil)
 (pss_cons (ps_for PassesOwn.never rfl (pi_range1 (by rfl) T.b_range (pa_cons (pe_callB (r := rLenU K w) call_lenU (by rfl) T.b_len PySem.boot_len (pa_cons (pv 0) pa_nil)) pa_nil)) (pg_name (i := 1) sc_is_alphabet.nd rfl (Or.inl rfl)) (pss_cons (ps_if (pt_cmpR (r := rNotInU K w) (op_notInU (Room.units1 hr)) (pe_ix (r := rIxU K w) (ix_U hr.units) (pv 0) (pv 1) (fun _ _ => rfl)) (pe_gc (by rfl) T.k_LETTERS) (by with_unfolding_all rfl)) (pss_one (ps_ret pe_bl)) pss_nil)
 (pss_one (ps_if (PW.pt (pw_and (pt_cmpR op_gtU (pv 1) pe_int (nomark _)) (pw_and1 (pt_cmpR op_geU (pe_ix (r := rIxU K w) (ix_U hr.units) (pv 0) (pe_op op_sub (pv 1) pe_int) (fun _ _ => rfl)) (pe_ix (r := rIxU K w) (ix_U hr.units) (pv 0) (pv 1) (fun _ _ => rfl)) (nomark _))))) (pss_one (ps_ret pe_bl)) pss_nil))))
 (pss_one (ps_ret pe_bl)))), run_def (E := E) rfl (fun W0 => ?_) h⟩
    exact (vs_seq (vs_if (vb_not (vb_test (b := false) (vt_chain (b1 := false) (b2 := false) (b3 := false) ros_cmp ros_cmp vt_int (vt_cbS (b1 := false) rcs_len (va_cons (vt_look 0) va_nil)) vt_int))) (vs_ret vt_bl) vs_next)
 (vs_seq (vs_for (vi_rg1 (b := false) (va_cons (vt_cbS (b1 := false) rcs_len (va_cons (vt_look 0) va_nil)) va_nil)) (vg_name 1) (vs_seq (vs_if (vb_test (b := false) (vt_opS (b1 := false) (b2 := false) ros_notIn (vt_ixv (i := 0) (b2 := false) (vt_look 1)) vt_str)) (vs_ret vt_bl) vs_next)
 (vs_if (vb_and (vb_test (b := false) (vt_opS (b1 := false) (b2 := false) ros_cmp (vt_look 1) vt_int)) (vb_test (b := false) (vt_opS (b1 := false) (b2 := false) ros_cmp (vt_ixv (i := 0) (b2 := false) (vt_opS (b1 := false) (b2 := false) ros_sub (vt_look 1) vt_int)) (vt_ixv (i := 0) (b2 := false) (vt_look 1))))) (vs_ret vt_bl) vs_next)))
 (vs_ret vt_bl)))), hm, F.kp, b⟩

theorem ok_check_alphabet (T : Txt w K mg A) (c_is_alphabet : CalX P w K mg base CX0 1 "is_alphabet" (spP (kw K w A.cls) (m_is_alphabet A))) {f : Addr} {fd : FuncData} (F : Fun K "check_alphabet" "check_alphabet" s_check_alphabet f fd) (hm : mg "check_alphabet" = some (.ref f)) (b : Binds K fd ["alphabet"] []) :
    CalX P w K mg base CX0 2 "check_alphabet" (spP (kw K w A.cls) (m_check_alphabet A)) :=
  ⟨f, fd, ["alphabet"], F.ok sc_check_alphabet (spP_len fun ds r h => (mOf_len h).1) (fun cdv A' outer s H vs Q E hr h => by
    refine ⟨_, (pss_one (ps_if (pt_not (pt_truthK (K := K) rfl (pe_cx c_is_alphabet hr (by decide) pass0 (by rfl) (pa_cons (pv 0) pa_nil)) (fun _ => rfl))) (pss_one ps_never) pss_nil)), run_def (E := E) rfl (fun W0 => ?_) h⟩
    exact (vs_if (vb_not (vb_tru (b := false) (vt_call (va_cons (vt_look 0) va_nil)))) vs_never vs_next)), hm, F.kp, b⟩

theorem ok_first_stranger (T : Txt w K mg A)  {f : Addr} {fd : FuncData} (F : Fun K "first_stranger" "first_stranger" s_first_stranger f fd) (hm : mg "first_stranger" = some (.ref f)) (b : Binds K fd ["alphabet", "text"] []) :
    CalX P w K mg base CX0 1 "first_stranger" (spP (kw K w A.cls) (m_first_stranger A)) :=
  ⟨f, fd, ["alphabet", "text"], F.ok sc_first_stranger (spP_len fun ds r h => (mOf_len h).1) (fun cdv A' outer s H vs Q E hr h => by
    refine ⟨_, (pss_cons (ps_for PassesOwn.never rfl (pi_range1 (by rfl) T.b_range (pa_cons (pe_callB (r := rLenU K w) call_lenU (by rfl) T.b_len PySem.boot_len (pa_cons (pv 1) pa_nil)) pa_nil)) (pg_name (i := 2) sc_first_stranger.nd rfl (Or.inl rfl)) (pss_one (ps_if (pt_cmpR (r := rNotInU K w) (op_notInU (Room.units1 hr)) (pe_ix (r := rIxU K w) (ix_U hr.units) (pv 1) (pv 2) (fun _ _ => rfl)) (pv 0) (by with_unfolding_all rfl)) (pss_one (ps_ret (pv 2))) pss_nil)))
 (pss_one (ps_ret pe_non))), run_def (E := E) rfl (fun W0 => ?_) h⟩
    exact (vs_seq (vs_for (vi_rg1 (b := false) (va_cons (vt_cbS (b1 := false) rcs_len (va_cons (vt_look 1) va_nil)) va_nil)) (vg_name 2) (vs_if (vb_test (b := false) (vt_opS (b1 := false) (b2 := false) ros_notIn (vt_ixv (i := 1) (b2 := false) (vt_look 2)) (vt_look 0))) (vs_ret (vt_var 2)) vs_next))
 (vs_ret vt_non))), hm, F.kp, b⟩

theorem ok_reached_states (T : Txt w K mg A)  {f : Addr} {fd : FuncData} (F : Fun K "reached_states" "reached_states" s_reached_states f fd) (hm : mg "reached_states" = some (.ref f)) (b : Binds K fd ["states"] []) :
    CalX P w K mg base CX0 1 "reached_states" (spP (kw K w A.cls) (m_reached_states A)) :=
  ⟨f, fd, ["states"], F.ok sc_reached_states (spP_len fun ds r h => (mOf_len h).1) (fun cdv A' outer s H vs Q E hr h => by
    refine ⟨_, (pss_cons (ps_set (i := 1) sc_reached_states.nd rfl (Or.inl rfl) (pe_lst (pa_cons pe_int pa_nil)))
 (pss_cons (ps_set (i := 2) sc_reached_states.nd rfl (Or.inl rfl) (pe_dispX (K := K) (w := w) (b := false) rfl rfl hr.units (pps_cons pe_int pe_bl pps_nil) rfl rfl (by simp) (by decide)))
 (pss_cons (ps_set (i := 3) sc_reached_states.nd rfl (Or.inl rfl) pe_int)
 (pss_cons (ps_while PassesOwn.never (pt_cmpR op_ltU (pv 3) (pe_callB (r := rLenU K w) call_lenU (by rfl) T.b_len PySem.boot_len (pa_cons (pv 1) pa_nil)) (nomark _)) (pss_cons (ps_for PassesOwn.never rfl (pi_seqUK (K := K) rfl (pe_ix (r := rIxU K w) (ix_U hr.units) (pe_ix (r := rIxU K w) (ix_U hr.units) (pv 0) (pe_ix (r := rIxU K w) (ix_U hr.units) (pv 1) (pv 3) (fun _ _ => rfl)) (fun _ _ => rfl)) pe_int (fun _ _ => rfl))) (pg_name (i := 4) sc_reached_states.nd rfl (Or.inl rfl)) (pss_one (ps_if (pt_cmpR (r := rNotInU K w) (op_notInU (Room.units1 hr)) (pv 4) (pv 2) (by with_unfolding_all rfl)) (pss_cons (ps_asg pe_bl (pg_sub (t := rSetX K w) (pv 2) (pv 4) (set_X hr.units)))
 (pss_one (ps_expr (pe_bm PySem.F.plainAttrs_list PySem.F.slot_list_append PySem.F.type_list_append mt_append (pv 1) (pa_cons (pv 4) pa_nil))))) pss_nil)))
 (pss_one (ps_set (i := 3) sc_reached_states.nd rfl (Or.inl rfl) (pe_op (r := rAddU K) op_addU (pv 3) pe_int)))))
 (pss_one (ps_ret (pv 1))))))), run_def (E := E) rfl (fun W0 => ?_) h⟩
    exact (vs_seq (vs_asgN (i := 1) (vn_lst (va_cons vt_int va_nil)))
 (vs_seq (vs_asgT (i := 2) (vtr_d1 (b := false) vt_int (vtr_leaf vt_bl)))
 (vs_seq (vs_asg vt_int (vg_name 3))
 (vs_seq (vs_while (fun _ => 1000) (vb_test (b := false) (vt_opS (b1 := false) (b2 := false) ros_cmp (vt_look 3) (vt_cbS (b1 := false) rcs_len (va_cons (vt_look 1) va_nil)))) (vs_seq (vs_for (vi_seqU (vt_op ro_ix (vt_ixv (i := 0) (b2 := false) (vt_ixv (i := 1) (b2 := false) (vt_look 3))) vt_int)) (vg_name 4) (vs_if (vb_test (b := false) (vt_opS (b1 := false) (b2 := false) ros_notIn (vt_look 4) (vt_alt (vt_view (vp_var 2)) (vt_var 2)))) (vs_seq (vs_pSet (vp_var 2) (vt_var 4) (vtr_leaf vt_bl))
 (vs_append (i := 1) (vt_var 4))) vs_next))
 (vs_asg (vt_op ro_add (vt_var 3) vt_int) (vg_name 3))))
 (vs_ret (vt_var 1))))))), hm, F.kp, b⟩

theorem ok_classes_of (T : Txt w K mg A)  {f : Addr} {fd : FuncData} (F : Fun K "classes_of" "classes_of" s_classes_of f fd) (hm : mg "classes_of" = some (.ref f)) (b : Binds K fd ["states", "order"] []) :
    CalX P w K mg base CX0 1 "classes_of" (spP (kw K w A.cls) (m_classes_of A)) :=
  ⟨f, fd, ["states", "order"], F.ok sc_classes_of (spP_len fun ds r h => (mOf_len h).1) (fun cdv A' outer s H vs Q E hr h => by
    refine ⟨_, (pss_cons (ps_set (i := 2) sc_classes_of.nd rfl (Or.inr rfl) (pe_dcX (K := K) (w := w) (b := false) (own := [("state", 6)]) rfl rfl hr.units rfl sc_classes_of.nd (pi_seqUK (K := K) rfl (pv 1)) (blkOk_by (N := N_classes_of) (sc := defScope s_classes_of) (by decide +kernel)) (fun _ _ _ _ _ => (pg_name (i := 6) sc_classes_of.nd rfl (Or.inl rfl))) (fun _ _ _ _ _ => pts_nil) (fun _ _ _ _ _ => (pv 6)) (fun _ _ _ _ _ => (pe_callTy call_intU (by rfl) T.b_int PyProof.Rows.boot_int (pa_cons (pe_ix (r := rIxU K w) (ix_U hr.units) (pe_ix (r := rIxU K w) (ix_U hr.units) (pv 0) (pv 6) (fun _ _ => rfl)) pe_int (fun _ _ => rfl)) pa_nil)))))
 (pss_cons (ps_set (i := 3) sc_classes_of.nd rfl (Or.inl rfl) pe_int)
 (pss_one (ps_while PassesOwn.never (pt_truthK (K := K) rfl pe_bl (fun _ => rfl)) (pss_cons (ps_set (i := 4) sc_classes_of.nd rfl (Or.inl rfl) (pe_dnewN (w := w) rfl))
 (pss_cons (ps_set (i := 5) sc_classes_of.nd rfl (Or.inl rfl) pe_dnewK)
 (pss_cons (ps_for PassesOwn.never rfl (pi_seqUK (K := K) rfl (pv 1)) (pg_name (i := 6) sc_classes_of.nd rfl (Or.inl rfl)) (pss_cons (ps_set (i := 7) sc_classes_of.nd rfl (Or.inl rfl) (pe_tup (pa_cons (pe_ix (r := rIxU K w) (ix_U hr.units) (pv 2) (pv 6) (fun _ _ => rfl)) (pa_cons (pe_callTy (r := rTupleU K) call_tupleU (by rfl) T.b_tuple PyProof.Rows.boot_tuple (pa_cons (pe_lc (own := [("target", 8)]) rfl sc_classes_of.nd (pi_seqUK (K := K) rfl (pe_ix (r := rIxU K w) (ix_U hr.units) (pe_ix (r := rIxU K w) (ix_U hr.units) (pv 0) (pv 6) (fun _ _ => rfl)) pe_int (fun _ _ => rfl))) (blkOk_by (N := N_classes_of) (sc := defScope s_classes_of) (by decide +kernel)) (fun _ _ _ _ _ => (pg_name (i := 8) sc_classes_of.nd rfl (Or.inl rfl))) (fun _ _ _ _ _ => pts_nil) (fun _ _ _ _ _ => (pe_ix (r := rIxU K w) (ix_U hr.units) (pv 2) (pv 8) (fun _ _ => rfl)))) pa_nil)) pa_nil))))
 (pss_cons (ps_if (pt_cmpR (r := rNotInU K w) (op_notInU (Room.units1 hr)) (pv 7) (pv 4) (by with_unfolding_all rfl)) (pss_one (ps_asg (pe_callB (r := rLenU K w) call_lenU (by rfl) T.b_len PySem.boot_len (pa_cons (pv 4) pa_nil)) (pg_sub (t := rSetX K w) (pv 4) (pv 7) (set_X hr.units)))) pss_nil)
 (pss_one (ps_asg (pe_ix (r := rIxU K w) (ix_U hr.units) (pv 4) (pv 7) (fun _ _ => rfl)) (pg_sub (t := rSetX K w) (pv 5) (pv 6) (set_X hr.units)))))))
 (pss_cons (ps_if (pt_cmpR (r := rEqU K) (op_eqU hr.units) (pe_callB (r := rLenU K w) call_lenU (by rfl) T.b_len PySem.boot_len (pa_cons (pv 4) pa_nil)) (pv 3) (nomark _)) (pss_one (ps_ret (pv 5))) pss_nil)
 (pss_cons (ps_set (i := 3) sc_classes_of.nd rfl (Or.inl rfl) (pe_callB (r := rLenU K w) call_lenU (by rfl) T.b_len PySem.boot_len (pa_cons (pv 4) pa_nil)))
 (pss_one (ps_set (i := 2) sc_classes_of.nd rfl (Or.inr rfl) (pv 5)))))))))))), run_def (E := E) rfl (fun W0 => ?_) h⟩
    exact (vs_seq (vs_asgT (i := 2) (vtr_dc (b := false) (vi_seqU (vt_var 1)) (vg_name 6) (by decide) vb_yes (vt_var 6) (vtr_leaf (vt_cbS (b1 := false) rcs_int (va_cons (vt_op ro_ix (vt_ixv (i := 0) (b2 := false) (vt_look 6)) vt_int) va_nil)))))
 (vs_seq (vs_asg vt_int (vg_name 3))
 (vs_while (fun _ => 1000) (vb_tru (b := false) vt_bl) (vs_seq (vs_asgT (i := 4) vtr_d0N)
 (vs_seq (vs_asgT (i := 5) vtr_d0K)
 (vs_seq (vs_for (vi_seqU (vt_var 1)) (vg_name 6) (vs_seq (vs_asg (vt_tup (va_cons (vt_alt (vt_leafP (vp_ix (b := false) (vp_var 2) (vt_look 6))) (vt_ixv (i := 2) (b2 := false) (vt_look 6))) (va_cons (vt_cb rc_tuple (va_cons (vt_vn (vn_lc (vi_seqU (vt_op ro_ix (vt_ixv (i := 0) (b2 := false) (vt_look 6)) vt_int)) (vg_name 8) (by decide) vb_yes (vt_alt (vt_leafP (vp_ix (b := false) (vp_var 2) (vt_look 8))) (vt_ixv (i := 2) (b2 := false) (vt_look 8))))) va_nil)) va_nil))) (vg_name 7))
 (vs_seq (vs_if (vb_test (b := false) (vt_opS (b1 := false) (b2 := false) ros_notIn (vt_look 7) (vt_alt (vt_view (vp_var 4)) (vt_var 4)))) (vs_pSet (vp_var 4) (vt_var 7) (vtr_leaf (vt_cbS (b1 := false) rcs_len (va_cons (vt_alt (vt_view (vp_var 4)) (vt_var 4)) va_nil)))) vs_next)
 (vs_pSet (vp_var 5) (vt_var 6) (vtr_leaf (vt_alt (vt_leafP (vp_ix (b := false) (vp_var 4) (vt_look 7))) (vt_ixv (i := 4) (b2 := false) (vt_look 7))))))))
 (vs_seq (vs_if (vb_test (b := false) (vt_opS (b1 := false) (b2 := false) ros_eq (vt_cbS (b1 := false) rcs_len (va_cons (vt_alt (vt_view (vp_var 4)) (vt_var 4)) va_nil)) (vt_look 3))) (vs_frzT 5 (vs_ret (vt_var 5))) vs_next)
 (vs_seq (vs_asg (vt_cbS (b1 := false) rcs_len (va_cons (vt_alt (vt_view (vp_var 4)) (vt_var 4)) va_nil)) (vg_name 3))
 (vs_mv 2 5)))))))))), hm, F.kp, b⟩

theorem ok_least_form (T : Txt w K mg A) (c_classes_of : CalX P w K mg base CX0 1 "classes_of" (spP (kw K w A.cls) (m_classes_of A))) (c_reached_states : CalX P w K mg base CX0 1 "reached_states" (spP (kw K w A.cls) (m_reached_states A))) {f : Addr} {fd : FuncData} (F : Fun K "least_form" "least_form" s_least_form f fd) (hm : mg "least_form" = some (.ref f)) (b : Binds K fd ["states"] []) :
    CalX P w K mg base CX0 2 "least_form" (spP (kw K w A.cls) (m_least_form A)) :=
  ⟨f, fd, ["states"], F.ok sc_least_form (spP_len fun ds r h => (mOf_len h).1) (fun cdv A' outer s H vs Q E hr h => by
    refine ⟨_, (pss_cons (ps_set (i := 1) sc_least_form.nd rfl (Or.inl rfl) (pe_cx c_reached_states hr (by decide) pass0 (by rfl) (pa_cons (pv 0) pa_nil)))
 (pss_cons (ps_set (i := 2) sc_least_form.nd rfl (Or.inr rfl) (pe_cx c_classes_of hr (by decide) pass0 (by rfl) (pa_cons (pv 0) (pa_cons (pv 1) pa_nil))))
 (pss_cons (ps_set (i := 3) sc_least_form.nd rfl (Or.inl rfl) (pe_lst pa_nil))
 (pss_cons (ps_set (i := 4) sc_least_form.nd rfl (Or.inr rfl) pe_dnewK)
 (pss_cons (ps_for PassesOwn.never rfl (pi_seqUK (K := K) rfl (pv 1)) (pg_name (i := 5) sc_least_form.nd rfl (Or.inl rfl)) (pss_one (ps_if (pt_cmpR (r := rNotInU K w) (op_notInU (Room.units1 hr)) (pe_ix (r := rIxU K w) (ix_U hr.units) (pv 2) (pv 5) (fun _ _ => rfl)) (pv 4) (by with_unfolding_all rfl)) (pss_cons (ps_asg (pe_callB (r := rLenU K w) call_lenU (by rfl) T.b_len PySem.boot_len (pa_cons (pv 3) pa_nil)) (pg_sub (t := rSetX K w) (pv 4) (pe_ix (r := rIxU K w) (ix_U hr.units) (pv 2) (pv 5) (fun _ _ => rfl)) (set_X hr.units)))
 (pss_one (ps_expr (pe_bm PySem.F.plainAttrs_list PySem.F.slot_list_append PySem.F.type_list_append mt_append (pv 3) (pa_cons (pv 5) pa_nil))))) pss_nil)))
 (pss_cons (ps_set (i := 6) sc_least_form.nd rfl (Or.inl rfl) (pe_lst pa_nil))
 (pss_cons (ps_for PassesOwn.never rfl (pi_seqUK (K := K) rfl (pv 3)) (pg_name (i := 5) sc_least_form.nd rfl (Or.inl rfl)) (pss_cons (ps_setLc (i := 7) (own := [("target", 8)]) rfl sc_least_form.nd rfl rfl (sw_true rfl rfl rfl (by decide +kernel)) (pi_seqUK (K := K) rfl (pe_ix (r := rIxU K w) (ix_U hr.units) (pe_ix (r := rIxU K w) (ix_U hr.units) (pv 0) (pv 5) (fun _ _ => rfl)) pe_int (fun _ _ => rfl))) (blkOk_by (N := N_least_form) (sc := defScope s_least_form) (by decide +kernel)) (fun _ _ _ _ _ => (pg_name (i := 8) sc_least_form.nd rfl (Or.inl rfl))) (fun _ _ _ _ _ => pts_nil) (fun _ _ _ _ _ => (pe_ix (r := rIxU K w) (ix_U hr.units) (pv 4) (pe_ix (r := rIxU K w) (ix_U hr.units) (pv 2) (pv 8) (fun _ _ => rfl)) (fun _ _ => rfl))))
 (pss_one (ps_expr (pe_bm PySem.F.plainAttrs_list PySem.F.slot_list_append PySem.F.type_list_append mt_append (pv 6) (pa_cons (pe_tup (pa_cons (pe_ix (r := rIxU K w) (ix_U hr.units) (pe_ix (r := rIxU K w) (ix_U hr.units) (pv 0) (pv 5) (fun _ _ => rfl)) pe_int (fun _ _ => rfl)) (pa_cons (pe_callTy (r := rTupleU K) call_tupleU (by rfl) T.b_tuple PyProof.Rows.boot_tuple (pa_cons (pv 7) pa_nil)) pa_nil))) pa_nil))))))
 (pss_one (ps_ret (pe_callTy (r := rTupleU K) call_tupleU (by rfl) T.b_tuple PyProof.Rows.boot_tuple (pa_cons (pv 6) pa_nil))))))))))), run_def (E := E) rfl (fun W0 => ?_) h⟩
    exact (vs_seq (vs_asg (vt_call (va_cons (vt_var 0) va_nil)) (vg_name 1))
 (vs_seq (vs_asg (vt_call (va_cons (vt_var 0) (va_cons (vt_var 1) va_nil))) (vg_name 2))
 (vs_seq (vs_asgN (i := 3) (vn_lst va_nil))
 (vs_seq (vs_asgT (i := 4) vtr_d0K)
 (vs_seq (vs_for (vi_seqU (vt_var 1)) (vg_name 5) (vs_if (vb_test (b := false) (vt_opS (b1 := false) (b2 := false) ros_notIn (vt_ixv (i := 2) (b2 := false) (vt_look 5)) (vt_alt (vt_view (vp_var 4)) (vt_var 4)))) (vs_seq (vs_pSet (vp_var 4) (vt_ixv (i := 2) (b2 := false) (vt_look 5)) (vtr_leaf (vt_cbS (b1 := false) rcs_len (va_cons (vt_look 3) va_nil))))
 (vs_append (i := 3) (vt_var 5))) vs_next))
 (vs_seq (vs_asgN (i := 6) (vn_lst va_nil))
 (vs_seq (vs_frz 3 (vs_for (vi_seqU (vt_var 3)) (vg_name 5) (vs_seq (vs_asg (vt_vn (vn_lc (vi_seqU (vt_op ro_ix (vt_ixv (i := 0) (b2 := false) (vt_look 5)) vt_int)) (vg_name 8) (by decide) vb_yes (vt_alt (vt_leafP (vp_ix (b := false) (vp_var 4) (vt_ixv (i := 2) (b2 := false) (vt_look 8)))) (vt_ixv (i := 4) (b2 := false) (vt_ixv (i := 2) (b2 := false) (vt_look 8)))))) (vg_name 7))
 (vs_append (i := 6) (vt_tup (va_cons (vt_op ro_ix (vt_ixv (i := 0) (b2 := false) (vt_look 5)) vt_int) (va_cons (vt_cb rc_tuple (va_cons (vt_var 7) va_nil)) va_nil)))))))
 (vs_ret (vt_cb rc_tuple (va_cons (vt_var 6) va_nil))))))))))), hm, F.kp, b⟩

theorem ok_is_state (T : Txt w K mg A) (c_is_whole : CalX P w K mg base CX0 1 "is_whole" (spP (kw K w A.cls) (m_is_whole A))) {f : Addr} {fd : FuncData} (F : Fun K "is_state" "is_state" s_is_state f fd) (hm : mg "is_state" = some (.ref f)) (b : Binds K fd ["state", "letters", "many"] []) :
    CalX P w K mg base CX0 2 "is_state" (spP (kw K w A.cls) (m_is_state A)) :=
  ⟨f, fd, ["state", "letters", "many"], F.ok sc_is_state (spP_len fun ds r h => (mOf_len h).1) (fun cdv A' outer s H vs Q E hr h => by
    refine ⟨_, (pss_cons (ps_if (pt_cmpR (r := rNeU K) (op_neU hr.units) (pe_callB (r := rLenU K w) call_lenU (by rfl) T.b_len PySem.boot_len (pa_cons (pe_ix (r := rIxU K w) (ix_U hr.units) (pv 0) pe_int (fun _ _ => rfl)) pa_nil)) (pv 1) (nomark _)) (pss_one (ps_ret pe_bl)) pss_nil)
 (pss_cons (ps_for PassesOwn.never rfl (pi_seqUK (K := K) rfl (pe_ix (r := rIxU K w) (ix_U hr.units) (pv 0) pe_int (fun _ _ => rfl))) (pg_name (i := 3) sc_is_state.nd rfl (Or.inl rfl)) (pss_one (ps_if (PW.pt (pw_or (pt_not (pt_truthK (K := K) rfl (pe_cx c_is_whole hr (by decide) pass0 (by rfl) (pa_cons (pv 3) pa_nil)) (fun _ => rfl))) (pw_or1 (pt_not (pt_chain op_leU op_ltU pe_int (pv 3) (pv 2)))))) (pss_one (ps_ret pe_bl)) pss_nil)))
 (pss_one (ps_ret pe_bl)))), run_def (E := E) rfl (fun W0 => ?_) h⟩
    exact (vs_seq (vs_if (vb_test (b := false) (vt_opS (b1 := false) (b2 := false) ros_ne (vt_cbS (b1 := false) rcs_len (va_cons (vt_ixv (i := 0) (b2 := false) vt_int) va_nil)) (vt_look 1))) (vs_ret vt_bl) vs_next)
 (vs_seq (vs_for (vi_seqU (vt_ixv (i := 0) (b2 := false) vt_int)) (vg_name 3) (vs_if (vb_or (vb_not (vb_tru (b := false) (vt_call (va_cons (vt_look 3) va_nil)))) (vb_not (vb_test (b := false) (vt_chain (b1 := false) (b2 := false) (b3 := false) ros_cmp ros_cmp vt_int (vt_look 3) (vt_look 2))))) (vs_ret vt_bl) vs_next))
 (vs_ret vt_bl)))), hm, F.kp, b⟩

theorem ok_state_of (T : Txt w K mg A)  {f : Addr} {fd : FuncData} (F : Fun K "state_of" "state_of" s_state_of f fd) (hm : mg "state_of" = some (.ref f)) (b : Binds K fd ["alphabet", "states", "text"] []) :
    CalX P w K mg base CX0 1 "state_of" (spP (kw K w A.cls) (m_state_of A)) :=
  ⟨f, fd, ["alphabet", "states", "text"], F.ok sc_state_of (spP_len fun ds r h => (mOf_len h).1) (fun cdv A' outer s H vs Q E hr h => by
    refine ⟨_, (pss_cons (ps_set (i := 3) sc_state_of.nd rfl (Or.inl rfl) pe_int)
 (pss_cons (ps_for PassesOwn.never rfl (pi_seqUK (K := K) rfl (pv 2)) (pg_name (i := 4) sc_state_of.nd rfl (Or.inl rfl)) (pss_one (ps_set (i := 3) sc_state_of.nd rfl (Or.inl rfl) (pe_ix (r := rIxU K w) (ix_U hr.units) (pe_ix (r := rIxU K w) (ix_U hr.units) (pe_ix (r := rIxU K w) (ix_U hr.units) (pv 1) (pv 3) (fun _ _ => rfl)) pe_int (fun _ _ => rfl)) (pe_findS (K := K) rfl (pv 0) (pa_cons (pv 4) pa_nil)) (fun _ _ => rfl)))))
 (pss_one (ps_ret (pv 3))))), run_def (E := E) rfl (fun W0 => ?_) h⟩
    exact (vs_seq (vs_asg vt_int (vg_name 3))
 (vs_seq (vs_for (vi_seqU (vt_var 2)) (vg_name 4) (vs_asg (vt_op ro_ix (vt_op ro_ix (vt_ixv (i := 1) (b2 := false) (vt_look 3)) vt_int) (vt_findS (b1 := false) (b2 := false) (vt_look 0) (vt_look 4))) (vg_name 3)))
 (vs_ret (vt_var 3))))), hm, F.kp, b⟩

theorem ok_Automaton_init (T : Txt w K mg A) (c_check_alphabet : CalX P w K mg base CX0 2 "check_alphabet" (spP (kw K w A.cls) (m_check_alphabet A))) (c_is_state : CalX P w K mg base CX0 2 "is_state" (spP (kw K w A.cls) (m_is_state A))) (c_least_form : CalX P w K mg base CX0 2 "least_form" (spP (kw K w A.cls) (m_least_form A))) {f : Addr} {fd : FuncData} (M : Mk K A.C_Automaton f) (F : Fun K "__init__" "Automaton.__init__" s_Automaton_init f fd) (hm : mg "Automaton" = some (.ref A.C_Automaton)) (b : Binds K fd ["self", "alphabet", "states"] []) :
    MakX P w K mg base CX0 3 "Automaton" A.C_Automaton (spI (kw K w A.cls) A.C_Automaton (i_Automaton A)) :=
  ⟨f, fd, _, M, F.ok sc_Automaton_init (spI_len fun ds r h => iOf_len h) (fun cdv A' outer s H vs Q E hr h => by
    refine ⟨_, (pss_cons (ps_expr (pe_cx c_check_alphabet hr (by decide) pass0 (by rfl) (pa_cons (pv 1) pa_nil)))
 (pss_cons (ps_if (pt_cmpR (r := rEqU K) (op_eqU hr.units) (pe_callB (r := rLenU K w) call_lenU (by rfl) T.b_len PySem.boot_len (pa_cons (pv 2) pa_nil)) pe_int (nomark _)) (pss_one ps_never) pss_nil)
 (pss_cons (ps_set (i := 3) sc_Automaton_init.nd rfl (Or.inl rfl) (pe_lst pa_nil))
 (pss_cons (ps_for PassesOwn.never rfl (pi_enumUK (K := K) rfl (pi_enumU (by rfl) T.b_enumerate (pa_cons (pv 2) pa_nil))) (pg_tupU (K := K) (n := 2) rfl rfl (pgs_cons (pg_name (i := 4) sc_Automaton_init.nd rfl (Or.inl rfl)) (pgs_cons (pg_name (i := 5) sc_Automaton_init.nd rfl (Or.inl rfl)) pgs_nil))) (pss_cons (ps_if (pt_not (pt_truthK (K := K) rfl (pe_cx c_is_state hr (by decide) pass0 (by rfl) (pa_cons (pv 5) (pa_cons (pe_callB (r := rLenU K w) call_lenU (by rfl) T.b_len PySem.boot_len (pa_cons (pv 1) pa_nil)) (pa_cons (pe_callB (r := rLenU K w) call_lenU (by rfl) T.b_len PySem.boot_len (pa_cons (pv 2) pa_nil)) pa_nil)))) (fun _ => rfl))) (pss_one ps_never) pss_nil)
 (pss_one (ps_expr (pe_bm PySem.F.plainAttrs_list PySem.F.slot_list_append PySem.F.type_list_append mt_append (pv 3) (pa_cons (pe_tup (pa_cons (pe_ix (r := rIxU K w) (ix_U hr.units) (pv 5) pe_int (fun _ _ => rfl)) (pa_cons (pe_callTy (r := rTupleU K) call_tupleU (by rfl) T.b_tuple PyProof.Rows.boot_tuple (pa_cons (pe_ix (r := rIxU K w) (ix_U hr.units) (pv 5) pe_int (fun _ _ => rfl)) pa_nil)) pa_nil))) pa_nil))))))
 (pss_cons (ps_fld (pv 0) (pv 1) rfl)
 (pss_one (ps_fld (pv 0) (pe_cx c_least_form hr (by decide) pass0 (by rfl) (pa_cons (pv 3) pa_nil)) rfl))))))), run_init (E := E) rfl (fun W0 => ?_) h⟩
    exact (vs_seq (vs_expr (b := false) (vt_call (va_cons (vt_look 1) va_nil)))
 (vs_seq (vs_if (vb_test (b := false) (vt_opS (b1 := false) (b2 := false) ros_eq (vt_cbS (b1 := false) rcs_len (va_cons (vt_look 2) va_nil)) vt_int)) vs_never vs_next)
 (vs_seq (vs_asgN (i := 3) (vn_lst va_nil))
 (vs_seq (vs_for (vi_enum (vt_var 2)) (vg_tupU (vgs_cons (vg_name 4) (vgs_cons (vg_name 5) vgs_nil))) (vs_seq (vs_if (vb_not (vb_tru (b := false) (vt_call (va_cons (vt_look 5) (va_cons (vt_cbS (b1 := false) rcs_len (va_cons (vt_look 1) va_nil)) (va_cons (vt_cbS (b1 := false) rcs_len (va_cons (vt_look 2) va_nil)) va_nil)))))) vs_never vs_next)
 (vs_append (i := 3) (vt_tup (va_cons (vt_ixv (i := 5) (b2 := false) vt_int) (va_cons (vt_cb rc_tuple (va_cons (vt_ixv (i := 5) (b2 := false) vt_int) va_nil)) va_nil))))))
 (vs_seq (vs_fldS T.c_Automaton T.n_Automaton_alphabet (vt_var 1))
 (vs_frz 3 (vs_fldS T.c_Automaton T.n_Automaton_states (vt_call (va_cons (vt_var 3) va_nil)))))))))), hm, b⟩

theorem ok_Automaton_contains (T : Txt w K mg A) (c_first_stranger : CalX P w K mg base CX0 1 "first_stranger" (spP (kw K w A.cls) (m_first_stranger A))) (c_state_of : CalX P w K mg base CX0 1 "state_of" (spP (kw K w A.cls) (m_state_of A))) {f : Addr} {fd : FuncData} (F : Fun K "__contains__" "Automaton.__contains__" s_Automaton_contains f fd) (iC : PySem.W.findIn K (.ref A.C_Automaton) "__contains__" = some (some (.ref f))) (iF : PySem.W.isFn K (.ref f) = true) (b : Binds K fd ["self", "text"] []) :
    InX P w K mg base A.cls 2 A.C_Automaton (m_Automaton_contains A) :=
  ⟨f, fd, ["self", "text"], F.ok sc_Automaton_contains (spP_len fun ds r h => (mOf_len h).1) (fun cdv A' outer s H vs Q E hr h => by
    refine ⟨_, (pss_cons (ps_if (pt_cmpR op_isNotU (pe_cx c_first_stranger hr (by decide) pass0 (by rfl) (pa_cons (pe_fldK (K := K) rfl (pv 0) rfl) (pa_cons (pv 1) pa_nil))) pe_non (nomark _)) (pss_one (ps_ret pe_bl)) pss_nil)
 (pss_one (ps_ret (pe_ix (r := rIxU K w) (ix_U hr.units) (pe_ix (r := rIxU K w) (ix_U hr.units) (pe_fldK (K := K) rfl (pv 0) rfl) (pe_cx c_state_of hr (by decide) pass0 (by rfl) (pa_cons (pe_fldK (K := K) rfl (pv 0) rfl) (pa_cons (pe_fldK (K := K) rfl (pv 0) rfl) (pa_cons (pv 1) pa_nil)))) (fun _ _ => rfl)) pe_int (fun _ _ => rfl))))), run_def (E := E) rfl (fun W0 => ?_) h⟩
    exact (vs_seq (vs_if (vb_test (b := false) (vt_opS (b1 := false) (b2 := false) ros_isNot (vt_call (va_cons (vt_fld T.c_Automaton T.n_Automaton_alphabet (vt_look 0)) (va_cons (vt_look 1) va_nil))) vt_non)) (vs_ret vt_bl) vs_next)
 (vs_ret (vt_op ro_ix (vt_op ro_ix (vt_fld T.c_Automaton T.n_Automaton_states (vt_var 0)) (vt_call (va_cons (vt_fld T.c_Automaton T.n_Automaton_alphabet (vt_var 0)) (va_cons (vt_fld T.c_Automaton T.n_Automaton_states (vt_var 0)) (va_cons (vt_var 1) va_nil))))) vt_int)))), iC, iF, b⟩

theorem ok_Beaten_init (T : Txt w K mg A)  {f : Addr} {fd : FuncData} (M : Mk K A.C_Beaten f) (F : Fun K "__init__" "Beaten.__init__" s_Beaten_init f fd) (hm : mg "Beaten" = some (.ref A.C_Beaten)) (b : Binds K fd ["self", "text", "taken", "belongs"] []) :
    MakX P w K mg base CX0 1 "Beaten" A.C_Beaten (spI (kw K w A.cls) A.C_Beaten (i_Beaten A)) :=
  ⟨f, fd, _, M, F.ok sc_Beaten_init (spI_len fun ds r h => iOf_len h) (fun cdv A' outer s H vs Q E hr h => by
    refine ⟨_, (pss_cons (ps_fld (pv 0) (pv 1) rfl)
 (pss_cons (ps_fld (pv 0) (pv 2) rfl)
 (pss_one (ps_fld (pv 0) (pv 3) rfl)))), run_init (E := E) rfl (fun W0 => ?_) h⟩
    exact (vs_seq (vs_fldS T.c_Beaten T.n_Beaten_text (vt_var 1))
 (vs_seq (vs_fldS T.c_Beaten T.n_Beaten_taken (vt_var 2))
 (vs_fldS T.c_Beaten T.n_Beaten_belongs (vt_var 3))))), hm, b⟩

theorem ok_check_alphabet_is (T : Txt w K mg A) (x_AlphabetsDiffer : ExcX P w K mg base 1 "AlphabetsDiffer" A.C_AlphabetsDiffer (spX2 A.C_AlphabetsDiffer "one" "two")) {f : Addr} {fd : FuncData} (F : Fun K "check_alphabet_is" "check_alphabet_is" s_check_alphabet_is f fd) (hm : mg "check_alphabet_is" = some (.ref f)) (b : Binds K fd ["thing", "alphabet"] []) :
    CalX P w K mg base (L2.CX P w) 3 "check_alphabet_is" (spP (kw K w A.cls) (m_check_alphabet_is A)) :=
  ⟨f, fd, ["thing", "alphabet"], F.okX sc_check_alphabet_is (spP_len fun ds r h => (mOf_len h).1) (fun cdv A' outer s H vs Q E hr h => by
    refine ⟨_, (pss_one (ps_if (pt_cmpR (r := rNeU K) (op_neU hr.units) (pe_fldK (K := K) rfl (pv 0) rfl) (pv 1) (nomark _)) (pss_one (ps_raise rfl (takes_of rfl rfl rfl rfl) (pmk_x x_AlphabetsDiffer hr (by decide) (by rfl) (pa_cons (pe_fldK (K := K) rfl (pv 0) rfl) (pa_cons (pv 1) pa_nil))))) pss_nil)), run_def (E := E) rfl (fun W0 => ?_) h⟩
    exact (vs_if (vb_test (b := false) (vt_opS (b1 := false) (b2 := false) ros_ne (vt_fld T.c_Automaton T.n_Automaton_alphabet (vt_look 0)) (vt_look 1))) (vs_raise2 (va_cons (vt_fld T.c_Automaton T.n_Automaton_alphabet (vt_var 0)) (va_cons (vt_var 1) va_nil))) vs_next)), hm, F.kp, b⟩

theorem ok_in_same_counts (T : Txt w K mg A)  {f : Addr} {fd : FuncData} (F : Fun K "in_same_counts" "in_same_counts" s_in_same_counts f fd) (hm : mg "in_same_counts" = some (.ref f)) (b : Binds K fd ["text"] []) :
    CalX P w K mg base CX0 1 "in_same_counts" (spP (kw K w A.cls) (m_in_same_counts A)) :=
  ⟨f, fd, ["text"], F.ok sc_in_same_counts (spP_len fun ds r h => (mOf_len h).1) (fun cdv A' outer s H vs Q E hr h => by
    refine ⟨_, (pss_cons (ps_set (i := 1) sc_in_same_counts.nd rfl (Or.inl rfl) (pe_op op_fdivW (pe_callB (r := rLenU K w) call_lenU (by rfl) T.b_len PySem.boot_len (pa_cons (pv 0) pa_nil)) pe_int))
 (pss_one (ps_ret (pe_cmpR (r := rEqU K) (op_eqU hr.units) (pv 0) (pe_op (r := rAddU K) op_addU (pe_op op_mulU pe_str (pv 1)) (pe_op op_mulU pe_str (pv 1))) (nomark _))))), run_def (E := E) rfl (fun W0 => ?_) h⟩
    exact (vs_seq (vs_asg (vt_opS (b1 := false) (b2 := false) (ros_I (C := CDivW) (f := fun i j => i / j)) (vt_cbS (b1 := false) rcs_len (va_cons (vt_look 0) va_nil)) vt_int) (vg_name 1))
 (vs_ret (vt_opS (b1 := false) (b2 := false) ros_eq (vt_look 0) (vt_op ro_add (vt_op ro_mul vt_str (vt_look 1)) (vt_op ro_mul vt_str (vt_look 1))))))), hm, F.kp, b⟩

theorem ok_first_twins (T : Txt w K mg A)  {f : Addr} {fd : FuncData} (F : Fun K "first_twins" "first_twins" s_first_twins f fd) (hm : mg "first_twins" = some (.ref f)) (b : Binds K fd ["automaton"] []) :
    CalX P w K mg base CX0 1 "first_twins" (spP (kw K w A.cls) (m_first_twins A)) :=
  ⟨f, fd, ["automaton"], F.ok sc_first_twins (spP_len fun ds r h => (mOf_len h).1) (fun cdv A' outer s H vs Q E hr h => by
    refine ⟨_, (pss_cons (ps_set (i := 1) sc_first_twins.nd rfl (Or.inl rfl) pe_dnewK)
 (pss_cons (ps_set (i := 2) sc_first_twins.nd rfl (Or.inl rfl) pe_int)
 (pss_cons (ps_set (i := 3) sc_first_twins.nd rfl (Or.inl rfl) pe_int)
 (pss_cons (ps_while PassesOwn.never (pt_cmpR (r := rNotInU K w) (op_notInU (Room.units1 hr)) (pv 2) (pv 1) (by with_unfolding_all rfl)) (pss_cons (ps_asg (pv 3) (pg_sub (t := rSetX K w) (pv 1) (pv 2) (set_X hr.units)))
 (pss_cons (ps_set (i := 2) sc_first_twins.nd rfl (Or.inl rfl) (pe_ix (r := rIxU K w) (ix_U hr.units) (pe_ix (r := rIxU K w) (ix_U hr.units) (pe_ix (r := rIxU K w) (ix_U hr.units) (pe_fldK (K := K) rfl (pv 0) rfl) (pv 2) (fun _ _ => rfl)) pe_int (fun _ _ => rfl)) pe_int (fun _ _ => rfl)))
 (pss_one (ps_aug (i := 3) sc_first_twins.nd rfl (Or.inl rfl) pe_int ip_add)))))
 (pss_one (ps_ret (pe_tup (pa_cons (pe_ix (r := rIxU K w) (ix_U hr.units) (pv 1) (pv 2) (fun _ _ => rfl)) (pa_cons (pv 3) pa_nil))))))))), run_def (E := E) rfl (fun W0 => ?_) h⟩
    exact (vs_seq (vs_asgT (i := 1) vtr_d0K)
 (vs_seq (vs_asg vt_int (vg_name 2))
 (vs_seq (vs_asg vt_int (vg_name 3))
 (vs_seq (vs_while (fun _ => 1000) (vb_test (b := false) (vt_opS (b1 := false) (b2 := false) ros_notIn (vt_look 2) (vt_alt (vt_view (vp_var 1)) (vt_var 1)))) (vs_seq (vs_pSet (vp_var 1) (vt_var 2) (vtr_leaf (vt_var 3)))
 (vs_seq (vs_asg (vt_op ro_ix (vt_op ro_ix (vt_op ro_ix (vt_fld T.c_Automaton T.n_Automaton_states (vt_var 0)) (vt_var 2)) vt_int) vt_int) (vg_name 2))
 (vs_augI (i := 3) (b := false) aug_add vt_int))))
 (vs_ret (vt_tup (va_cons (vt_alt (vt_leafP (vp_ix (b := false) (vp_var 1) (vt_look 2))) (vt_ixv (i := 1) (b2 := false) (vt_look 2))) (va_cons (vt_var 3) va_nil))))))))), hm, F.kp, b⟩

theorem ok_beat_same_counts (T : Txt w K mg A) (c_Beaten : MakX P w K mg base CX0 1 "Beaten" A.C_Beaten (spI (kw K w A.cls) A.C_Beaten (i_Beaten A))) (c_check_alphabet_is : CalX P w K mg base (L2.CX P w) 3 "check_alphabet_is" (spP (kw K w A.cls) (m_check_alphabet_is A))) (c_first_twins : CalX P w K mg base CX0 1 "first_twins" (spP (kw K w A.cls) (m_first_twins A))) (in_Automaton : InX P w K mg base A.cls 2 A.C_Automaton (m_Automaton_contains A)) {f : Addr} {fd : FuncData} (F : Fun K "beat_same_counts" "beat_same_counts" s_beat_same_counts f fd) (hm : mg "beat_same_counts" = some (.ref f)) (b : Binds K fd ["automaton"] []) :
    CalX P w K mg base (L2.CX P w) 4 "beat_same_counts" (spP (kw K w A.cls) (m_beat_same_counts A)) :=
  ⟨f, fd, ["automaton"], F.okX sc_beat_same_counts (spP_len fun ds r h => (mOf_len h).1) (fun cdv A' outer s H vs Q E hr h => by
    refine ⟨_, (pss_cons (ps_expr (pe_cx c_check_alphabet_is hr (by decide) (passes_call (takes_of rfl rfl rfl rfl) (fun _ _ _ _ h => h)) (by rfl) (pa_cons (pv 0) (pa_cons (pe_gc (by rfl) T.k_AB) pa_nil))))
 (pss_cons (ps_asg (pe_cx c_first_twins hr (by decide) pass0 (by rfl) (pa_cons (pv 0) pa_nil)) (pg_tupU (K := K) (n := 2) rfl rfl (pgs_cons (pg_name (i := 1) sc_beat_same_counts.nd rfl (Or.inl rfl)) (pgs_cons (pg_name (i := 2) sc_beat_same_counts.nd rfl (Or.inl rfl)) pgs_nil))))
 (pss_cons (ps_set (i := 3) sc_beat_same_counts.nd rfl (Or.inl rfl) (pe_op (r := rAddU K) op_addU (pe_op op_mulU pe_str (pv 1)) (pe_op op_mulU pe_str (pv 1))))
 (pss_cons (ps_if (pt_cmpR (r := rInO A.C_Automaton (spP (kw K w A.cls) (m_Automaton_contains A)) true) (op_notInC in_Automaton hr (by decide)) (pv 3) (pv 0) (by with_unfolding_all rfl)) (pss_one (ps_ret (pe_mx c_Beaten hr (by decide) pass0 (by rfl) (pa_cons (pv 3) (pa_cons pe_bl (pa_cons pe_bl pa_nil)))))) pss_nil)
 (pss_one (ps_ret (pe_mx c_Beaten hr (by decide) pass0 (by rfl) (pa_cons (pe_op (r := rAddU K) op_addU (pe_op op_mulU pe_str (pv 2)) (pe_op op_mulU pe_str (pv 1))) (pa_cons pe_bl (pa_cons pe_bl pa_nil)))))))))), run_def (E := E) rfl (fun W0 => ?_) h⟩
    exact (vs_seq (vs_exprX (va_cons (vt_var 0) (va_cons vt_str va_nil)))
 (vs_seq (vs_asg (vt_call (va_cons (vt_var 0) va_nil)) (vg_tupU (vgs_cons (vg_name 1) (vgs_cons (vg_name 2) vgs_nil))))
 (vs_seq (vs_asg (vt_op ro_add (vt_op ro_mul vt_str (vt_var 1)) (vt_op ro_mul vt_str (vt_var 1))) (vg_name 3))
 (vs_seq (vs_if (vb_test (b := false) (vt_inO (vt_var 3) (vt_var 0))) (vs_ret (vt_make (va_cons (vt_var 3) (va_cons vt_bl (va_cons vt_bl va_nil))))) vs_next)
 (vs_ret (vt_make (va_cons (vt_op ro_add (vt_op ro_mul vt_str (vt_var 2)) (vt_op ro_mul vt_str (vt_var 1))) (va_cons vt_bl (va_cons vt_bl va_nil)))))))))), hm, F.kp, b⟩

theorem ok__law_cell (T : Txt w K mg A)  {f : Addr} {fd : FuncData} (F : Fun K "_law_cell" "_law_cell" s__law_cell f fd) (hm : mg "_law_cell" = some (.ref f)) (b : Binds K fd ["script", "k"] []) :
    CalX P w K mg base CX0 1 "_law_cell" (spP (kw K w A.cls) (m__law_cell A)) :=
  ⟨f, fd, ["script", "k"], F.ok sc__law_cell (spP_len fun ds r h => (mOf_len h).1) (fun cdv A' outer s H vs Q E hr h => by
    refine ⟨_, (pss_cons (ps_if (pt_cmpR op_ltU (pv 1) (pe_callB (r := rLenU K w) call_lenU (by rfl) T.b_len PySem.boot_len (pa_cons (pv 0) pa_nil)) (nomark _)) (pss_one (ps_ret (pe_ix (r := rIxU K w) (ix_U hr.units) (pv 0) (pv 1) (fun _ _ => rfl)))) pss_nil)
 (pss_cons (ps_set (i := 2) sc__law_cell.nd rfl (Or.inl rfl) pe_int)
 (pss_cons (ps_for PassesOwn.never rfl (pi_seqUK (K := K) rfl (pv 0)) (pg_name (i := 3) sc__law_cell.nd rfl (Or.inl rfl)) (pss_one (ps_set (i := 2) sc__law_cell.nd rfl (Or.inl rfl) (pe_op op_mod (pe_callTy call_intU (by rfl) T.b_int PyProof.Rows.boot_int (pa_cons (pe_op (r := rAddU K) op_addU (pe_op op_mulU (pv 2) pe_int) (pe_op op_mod (pe_callTy call_intU (by rfl) T.b_int PyProof.Rows.boot_int (pa_cons (pv 3) pa_nil)) pe_int)) pa_nil)) pe_int))))
 (pss_one (ps_ret (pe_op op_mod (pe_callTy call_intU (by rfl) T.b_int PyProof.Rows.boot_int (pa_cons (pe_op op_mulU (pe_op op_mulU (pe_op (r := rAddU K) op_addU (pv 2) pe_int) (pe_op (r := rAddU K) op_addU (pv 1) pe_int)) pe_int) pa_nil)) pe_int)))))), run_def (E := E) rfl (fun W0 => ?_) h⟩
    exact (vs_seq (vs_if (vb_test (b := false) (vt_opS (b1 := false) (b2 := false) ros_cmp (vt_look 1) (vt_cbS (b1 := false) rcs_len (va_cons (vt_look 0) va_nil)))) (vs_ret (vt_ixv (i := 0) (b2 := false) (vt_look 1))) vs_next)
 (vs_seq (vs_asg vt_int (vg_name 2))
 (vs_seq (vs_for (vi_seqU (vt_var 0)) (vg_name 3) (vs_asg (vt_opS (b1 := false) (b2 := false) (ros_I (C := PosR) (f := fun i j => i % j)) (vt_cbS (b1 := false) rcs_int (va_cons (vt_op ro_add (vt_op ro_mul (vt_look 2) vt_int) (vt_opS (b1 := false) (b2 := false) (ros_I (C := PosR) (f := fun i j => i % j)) (vt_cbS (b1 := false) rcs_int (va_cons (vt_look 3) va_nil)) vt_int)) va_nil)) vt_int) (vg_name 2)))
 (vs_ret (vt_opS (b1 := false) (b2 := false) (ros_I (C := PosR) (f := fun i j => i % j)) (vt_cbS (b1 := false) rcs_int (va_cons (vt_op ro_mul (vt_op ro_mul (vt_op ro_add (vt_look 2) vt_int) (vt_op ro_add (vt_look 1) vt_int)) vt_int) va_nil)) vt_int)))))), hm, F.kp, b⟩

theorem ok__law_digits (T : Txt w K mg A)  {f : Addr} {fd : FuncData} (F : Fun K "_law_digits" "_law_digits" s__law_digits f fd) (hm : mg "_law_digits" = some (.ref f)) (b : Binds K fd ["cell", "sizes"] []) :
    CalX P w K mg base CX0 1 "_law_digits" (spP (kw K w A.cls) (m__law_digits A)) :=
  ⟨f, fd, ["cell", "sizes"], F.ok sc__law_digits (spP_len fun ds r h => (mOf_len h).1) (fun cdv A' outer s H vs Q E hr h => by
    refine ⟨_, (pss_cons (ps_set (i := 2) sc__law_digits.nd rfl (Or.inl rfl) (pe_lst pa_nil))
 (pss_cons (ps_set (i := 3) sc__law_digits.nd rfl (Or.inl rfl) (pe_callTy call_intU (by rfl) T.b_int PyProof.Rows.boot_int (pa_cons (pv 0) pa_nil)))
 (pss_cons (ps_if (pt_cmpR op_geU (pv 3) (pe_op op_pow pe_int pe_int) (nomark _)) (pss_cons (ps_set (i := 3) sc__law_digits.nd rfl (Or.inl rfl) (pe_op op_mod (pe_callTy call_intU (by rfl) T.b_int PyProof.Rows.boot_int (pa_cons (pe_op op_sub (pv 3) (pe_op op_pow pe_int pe_int)) pa_nil)) (pe_op op_pow pe_int pe_int)))
 (pss_cons (ps_for PassesOwn.never rfl (pi_seqUK (K := K) rfl (pv 1)) (pg_name (i := 4) sc__law_digits.nd rfl (Or.inl rfl)) (pss_cons (ps_expr (pe_bm PySem.F.plainAttrs_list PySem.F.slot_list_append PySem.F.type_list_append mt_append (pv 2) (pa_cons (pe_op op_mod (pe_callTy call_intU (by rfl) T.b_int PyProof.Rows.boot_int (pa_cons (pv 3) pa_nil)) (pv 4)) pa_nil)))
 (pss_one (ps_set (i := 3) sc__law_digits.nd rfl (Or.inl rfl) (pe_op op_fdivW (pe_callTy call_intU (by rfl) T.b_int PyProof.Rows.boot_int (pa_cons (pv 3) pa_nil)) (pv 4))))))
 (pss_one (ps_ret (pv 2))))) pss_nil)
 (pss_cons (ps_set (i := 5) sc__law_digits.nd rfl (Or.inl rfl) (pe_op op_mod (pe_callTy call_intU (by rfl) T.b_int PyProof.Rows.boot_int (pa_cons (pv 3) pa_nil)) pe_int))
 (pss_cons (ps_for PassesOwn.never rfl (pi_range1 (by rfl) T.b_range (pa_cons (pe_callB (r := rLenU K w) call_lenU (by rfl) T.b_len PySem.boot_len (pa_cons (pv 1) pa_nil)) pa_nil)) (pg_name (i := 6) sc__law_digits.nd rfl (Or.inl rfl)) (pss_cons (ps_set (i := 5) sc__law_digits.nd rfl (Or.inl rfl) (pe_op op_mod (pe_callTy call_intU (by rfl) T.b_int PyProof.Rows.boot_int (pa_cons (pe_op (r := rAddU K) op_addU (pe_op (r := rAddU K) op_addU (pe_op op_mulU (pv 5) pe_int) (pe_op op_mulU pe_int (pv 6))) pe_int) pa_nil)) pe_int))
 (pss_cons (ps_set (i := 7) sc__law_digits.nd rfl (Or.inl rfl) (pe_op op_mod (pe_callTy call_intU (by rfl) T.b_int PyProof.Rows.boot_int (pa_cons (pe_op op_mulU (pv 5) (pe_op (r := rAddU K) op_addU (pe_op op_fdivW (pv 5) pe_int) pe_int)) pa_nil)) pe_int))
 (pss_one (ps_expr (pe_bm PySem.F.plainAttrs_list PySem.F.slot_list_append PySem.F.type_list_append mt_append (pv 2) (pa_cons (pe_op op_mod (pe_op op_fdivW (pv 7) pe_int) (pe_ix (r := rIxU K w) (ix_U hr.units) (pv 1) (pv 6) (fun _ _ => rfl))) pa_nil)))))))
 (pss_one (ps_ret (pv 2)))))))), run_def (E := E) rfl (fun W0 => ?_) h⟩
    exact (vs_seq (vs_asgN (i := 2) (vn_lst va_nil))
 (vs_seq (vs_asg (vt_cbS (b1 := false) rcs_int (va_cons (vt_look 0) va_nil)) (vg_name 3))
 (vs_seq (vs_if (vb_test (b := false) (vt_opS (b1 := false) (b2 := false) ros_cmp (vt_look 3) (vt_opS (b1 := false) (b2 := false) (ros_I (C := CPow) (f := fun i j => i ^ j.toNat)) vt_int vt_int))) (vs_seq (vs_asg (vt_opS (b1 := false) (b2 := false) (ros_I (C := PosR) (f := fun i j => i % j)) (vt_cbS (b1 := false) rcs_int (va_cons (vt_opS (b1 := false) (b2 := false) ros_sub (vt_look 3) (vt_opS (b1 := false) (b2 := false) (ros_I (C := CPow) (f := fun i j => i ^ j.toNat)) vt_int vt_int)) va_nil)) (vt_opS (b1 := false) (b2 := false) (ros_I (C := CPow) (f := fun i j => i ^ j.toNat)) vt_int vt_int)) (vg_name 3))
 (vs_seq (vs_for (vi_seqU (vt_var 1)) (vg_name 4) (vs_seq (vs_append (i := 2) (vt_opS (b1 := false) (b2 := false) (ros_I (C := PosR) (f := fun i j => i % j)) (vt_cbS (b1 := false) rcs_int (va_cons (vt_look 3) va_nil)) (vt_look 4)))
 (vs_asg (vt_opS (b1 := false) (b2 := false) (ros_I (C := CDivW) (f := fun i j => i / j)) (vt_cbS (b1 := false) rcs_int (va_cons (vt_look 3) va_nil)) (vt_look 4)) (vg_name 3))))
 (vs_ret (vt_var 2)))) vs_next)
 (vs_seq (vs_asg (vt_opS (b1 := false) (b2 := false) (ros_I (C := PosR) (f := fun i j => i % j)) (vt_cbS (b1 := false) rcs_int (va_cons (vt_look 3) va_nil)) vt_int) (vg_name 5))
 (vs_seq (vs_for (vi_rg1 (b := false) (va_cons (vt_cbS (b1 := false) rcs_len (va_cons (vt_look 1) va_nil)) va_nil)) (vg_name 6) (vs_seq (vs_asg (vt_opS (b1 := false) (b2 := false) (ros_I (C := PosR) (f := fun i j => i % j)) (vt_cbS (b1 := false) rcs_int (va_cons (vt_op ro_add (vt_op ro_add (vt_op ro_mul (vt_look 5) vt_int) (vt_op ro_mul vt_int (vt_look 6))) vt_int) va_nil)) vt_int) (vg_name 5))
 (vs_seq (vs_asg (vt_opS (b1 := false) (b2 := false) (ros_I (C := PosR) (f := fun i j => i % j)) (vt_cbS (b1 := false) rcs_int (va_cons (vt_op ro_mul (vt_look 5) (vt_op ro_add (vt_opS (b1 := false) (b2 := false) (ros_I (C := CDivW) (f := fun i j => i / j)) (vt_look 5) vt_int) vt_int)) va_nil)) vt_int) (vg_name 7))
 (vs_append (i := 2) (vt_opS (b1 := false) (b2 := false) (ros_I (C := PosR) (f := fun i j => i % j)) (vt_opS (b1 := false) (b2 := false) (ros_I (C := CDivW) (f := fun i j => i / j)) (vt_look 7) vt_int) (vt_ixv (i := 1) (b2 := false) (vt_look 6)))))))
 (vs_ret (vt_var 2)))))))), hm, F.kp, b⟩

theorem ok__law_counting (T : Txt w K mg A)  {f : Addr} {fd : FuncData} (F : Fun K "_law_counting" "_law_counting" s__law_counting f fd) (hm : mg "_law_counting" = some (.ref f)) (b : Binds K fd ["many"] []) :
    CalX P w K mg base CX0 1 "_law_counting" (spO (kw K w A.cls) (m__law_counting A)) :=
  ⟨f, fd, ["many"], F.ok sc__law_counting (spO_len fun ds r h => (moOf_len h).1) (fun cdv A' outer s H vs Q E hr h => by
    refine ⟨_, (pss_cons (ps_set (i := 1) sc__law_counting.nd rfl (Or.inl rfl) (pe_op op_mulU pe_int (pv 0)))
 (pss_cons (ps_set (i := 2) sc__law_counting.nd rfl (Or.inl rfl) (pe_lst pa_nil))
 (pss_cons (ps_for PassesOwn.never rfl (pi_range1 (by rfl) T.b_range (pa_cons (pv 0) pa_nil)) (pg_name (i := 3) sc__law_counting.nd rfl (Or.inl rfl)) (pss_cons (ps_set (i := 4) sc__law_counting.nd rfl (Or.inl rfl) (pv 1))
 (pss_cons (ps_if (pt_cmpR op_ltU (pe_op (r := rAddU K) op_addU (pv 3) pe_int) (pv 0) (nomark _)) (pss_one (ps_set (i := 4) sc__law_counting.nd rfl (Or.inl rfl) (pe_op (r := rAddU K) op_addU (pv 3) pe_int))) pss_nil)
 (pss_cons (ps_set (i := 5) sc__law_counting.nd rfl (Or.inl rfl) (pv 1))
 (pss_cons (ps_if (pt_cmpR op_gtU (pv 3) pe_int (nomark _)) (pss_one (ps_set (i := 5) sc__law_counting.nd rfl (Or.inl rfl) (pe_op op_sub (pe_op (r := rAddU K) op_addU (pv 0) (pv 3)) pe_int))) pss_nil)
 (pss_one (ps_expr (pe_bm PySem.F.plainAttrs_list PySem.F.slot_list_append PySem.F.type_list_append mt_append (pv 2) (pa_cons (pe_lst (pa_cons (pe_cmpR (r := rEqU K) (op_eqU hr.units) (pv 3) pe_int (nomark _)) (pa_cons (pe_lst (pa_cons (pv 4) (pa_cons (pv 5) pa_nil))) pa_nil))) pa_nil)))))))))
 (pss_cons (ps_for PassesOwn.never rfl (pi_range1 (by rfl) T.b_range (pa_cons (pv 0) pa_nil)) (pg_name (i := 3) sc__law_counting.nd rfl (Or.inl rfl)) (pss_cons (ps_set (i := 5) sc__law_counting.nd rfl (Or.inl rfl) (pv 1))
 (pss_cons (ps_if (pt_cmpR op_gtU (pv 3) pe_int (nomark _)) (pss_one (ps_set (i := 5) sc__law_counting.nd rfl (Or.inl rfl) (pe_op op_sub (pe_op (r := rAddU K) op_addU (pv 0) (pv 3)) pe_int))) pss_nil)
 (pss_one (ps_expr (pe_bm PySem.F.plainAttrs_list PySem.F.slot_list_append PySem.F.type_list_append mt_append (pv 2) (pa_cons (pe_lst (pa_cons (pe_cmpR (r := rEqU K) (op_eqU hr.units) (pv 3) pe_int (nomark _)) (pa_cons (pe_lst (pa_cons (pv 1) (pa_cons (pv 5) pa_nil))) pa_nil))) pa_nil)))))))
 (pss_cons (ps_expr (pe_bm PySem.F.plainAttrs_list PySem.F.slot_list_append PySem.F.type_list_append mt_append (pv 2) (pa_cons (pe_lst (pa_cons pe_bl (pa_cons (pe_lst (pa_cons (pv 1) (pa_cons (pv 1) pa_nil))) pa_nil))) pa_nil)))
 (pss_one (ps_ret (pv 2)))))))), run_defO (E := E) rfl (fun W0 => ?_) h⟩
    exact (vs_seq (vs_asg (vt_op ro_mul vt_int (vt_var 0)) (vg_name 1))
 (vs_seq (vs_asgT (i := 2) (vtr_new (vn_lst va_nil)))
 (vs_seq (vs_for (vi_rg1 (b := false) (va_cons (vt_look 0) va_nil)) (vg_name 3) (vs_seq (vs_asg (vt_var 1) (vg_name 4))
 (vs_seq (vs_if (vb_test (b := false) (vt_opS (b1 := false) (b2 := false) ros_cmp (vt_op ro_add (vt_look 3) vt_int) (vt_look 0))) (vs_asg (vt_op ro_add (vt_var 3) vt_int) (vg_name 4)) vs_next)
 (vs_seq (vs_asg (vt_var 1) (vg_name 5))
 (vs_seq (vs_if (vb_test (b := false) (vt_opS (b1 := false) (b2 := false) ros_cmp (vt_look 3) vt_int)) (vs_asg (vt_opS (b1 := false) (b2 := false) ros_sub (vt_op ro_add (vt_look 0) (vt_look 3)) vt_int) (vg_name 5)) vs_next)
 (vs_pApp (vp_var 2) (vtr_lst (vtrs_cons (vtr_leaf (vt_opS (b1 := false) (b2 := false) ros_eq (vt_look 3) vt_int)) (vtrs_cons (vtr_lst (vtrs_cons (vtr_leaf (vt_var 4)) (vtrs_cons (vtr_leaf (vt_var 5)) vtrs_nil))) vtrs_nil)))))))))
 (vs_seq (vs_for (vi_rg1 (b := false) (va_cons (vt_look 0) va_nil)) (vg_name 3) (vs_seq (vs_asg (vt_var 1) (vg_name 5))
 (vs_seq (vs_if (vb_test (b := false) (vt_opS (b1 := false) (b2 := false) ros_cmp (vt_look 3) vt_int)) (vs_asg (vt_opS (b1 := false) (b2 := false) ros_sub (vt_op ro_add (vt_look 0) (vt_look 3)) vt_int) (vg_name 5)) vs_next)
 (vs_pApp (vp_var 2) (vtr_lst (vtrs_cons (vtr_leaf (vt_opS (b1 := false) (b2 := false) ros_eq (vt_look 3) vt_int)) (vtrs_cons (vtr_lst (vtrs_cons (vtr_leaf (vt_var 1)) (vtrs_cons (vtr_leaf (vt_var 5)) vtrs_nil))) vtrs_nil)))))))
 (vs_seq (vs_pApp (vp_var 2) (vtr_lst (vtrs_cons (vtr_leaf vt_bl) (vtrs_cons (vtr_lst (vtrs_cons (vtr_leaf (vt_var 1)) (vtrs_cons (vtr_leaf (vt_var 1)) vtrs_nil))) vtrs_nil))))
 (vs_retO 2))))))), hm, F.kp, b⟩

theorem ok__law_states (T : Txt w K mg A) (c__law_cell : CalX P w K mg base CX0 1 "_law_cell" (spP (kw K w A.cls) (m__law_cell A))) (c__law_counting : CalX P w K mg base CX0 1 "_law_counting" (spO (kw K w A.cls) (m__law_counting A))) (c__law_digits : CalX P w K mg base CX0 1 "_law_digits" (spP (kw K w A.cls) (m__law_digits A))) {f : Addr} {fd : FuncData} (F : Fun K "_law_states" "_law_states" s__law_states f fd) (hm : mg "_law_states" = some (.ref f)) (b : Binds K fd ["script"] []) :
    CalX P w K mg base CX0 2 "_law_states" (spP (kw K w A.cls) (m__law_states A)) :=
  ⟨f, fd, ["script"], F.ok sc__law_states (spP_len fun ds r h => (mOf_len h).1) (fun cdv A' outer s H vs Q E hr h => by
    refine ⟨_, (pss_cons (ps_set (i := 1) sc__law_states.nd rfl (Or.inl rfl) (pe_cx c__law_digits hr (by decide) pass0 (by rfl) (pa_cons (pe_cx c__law_cell hr (by decide) pass0 (by rfl) (pa_cons (pv 0) (pa_cons pe_int pa_nil))) (pa_cons (pe_op (r := rAddU K) op_addU (pe_lst (pa_cons pe_int (pa_cons pe_int pa_nil))) (pe_op op_mulU (pe_lst (pa_cons pe_int (pa_cons pe_int (pa_cons pe_int pa_nil)))) pe_int)) pa_nil))))
 (pss_cons (ps_set (i := 2) sc__law_states.nd rfl (Or.inl rfl) (pe_op (r := rAddU K) op_addU pe_int (pe_callTy call_intU (by rfl) T.b_int PyProof.Rows.boot_int (pa_cons (pe_ix (r := rIxU K w) (ix_U hr.units) (pv 1) pe_int (fun _ _ => rfl)) pa_nil))))
 (pss_cons (ps_set (i := 3) sc__law_states.nd rfl (Or.inl rfl) (pe_lst pa_nil))
 (pss_cons (ps_for PassesOwn.never rfl (pi_range1 (by rfl) T.b_range (pa_cons (pv 2) pa_nil)) (pg_name (i := 4) sc__law_states.nd rfl (Or.inl rfl)) (pss_one (ps_expr (pe_bm PySem.F.plainAttrs_list PySem.F.slot_list_append PySem.F.type_list_append mt_append (pv 3) (pa_cons (pe_lst (pa_cons (pe_cmpR (r := rEqU K) (op_eqU hr.units) (pe_ix (r := rIxU K w) (ix_U hr.units) (pv 1) (pe_op (r := rAddU K) op_addU pe_int (pe_op op_mulU pe_int (pv 4))) (fun _ _ => rfl)) pe_int (nomark _)) (pa_cons (pe_lst (pa_cons (pe_op op_mod (pe_callTy call_intU (by rfl) T.b_int PyProof.Rows.boot_int (pa_cons (pe_ix (r := rIxU K w) (ix_U hr.units) (pv 1) (pe_op (r := rAddU K) op_addU pe_int (pe_op op_mulU pe_int (pv 4))) (fun _ _ => rfl)) pa_nil)) (pv 2)) (pa_cons (pe_op op_mod (pe_callTy call_intU (by rfl) T.b_int PyProof.Rows.boot_int (pa_cons (pe_ix (r := rIxU K w) (ix_U hr.units) (pv 1) (pe_op (r := rAddU K) op_addU pe_int (pe_op op_mulU pe_int (pv 4))) (fun _ _ => rfl)) pa_nil)) (pv 2)) pa_nil))) pa_nil))) pa_nil)))))
 (pss_cons (ps_if (pt_cmpR op_ltU (pe_ix (r := rIxU K w) (ix_U hr.units) (pv 1) pe_int (fun _ _ => rfl)) pe_int (nomark _)) (pss_one (ps_ret (pv 3))) pss_nil)
 (pss_cons (ps_set (i := 5) sc__law_states.nd rfl (Or.inl rfl) (pe_cx c__law_counting hr (by decide) pass0 (by rfl) (pa_cons (pv 2) pa_nil)))
 (pss_cons (ps_if (pt_cmpR (r := rEqU K) (op_eqU hr.units) (pe_ix (r := rIxU K w) (ix_U hr.units) (pv 1) pe_int (fun _ _ => rfl)) pe_int (nomark _)) (pss_one (ps_set (i := 5) sc__law_states.nd rfl (Or.inl rfl) (pe_lst (pa_cons (pe_lst (pa_cons pe_bl (pa_cons (pe_lst (pa_cons pe_int (pa_cons pe_int pa_nil))) pa_nil))) (pa_cons (pe_lst (pa_cons pe_bl (pa_cons (pe_lst (pa_cons pe_int (pa_cons pe_int pa_nil))) pa_nil))) (pa_cons (pe_lst (pa_cons pe_bl (pa_cons (pe_lst (pa_cons pe_int (pa_cons pe_int pa_nil))) pa_nil))) pa_nil)))))) pss_nil)
 (pss_cons (ps_if (pt_cmpR op_geU (pe_ix (r := rIxU K w) (ix_U hr.units) (pv 1) pe_int (fun _ _ => rfl)) pe_int (nomark _)) (pss_cons (ps_set (i := 6) sc__law_states.nd rfl (Or.inl rfl) (pe_op op_mod (pe_callTy call_intU (by rfl) T.b_int PyProof.Rows.boot_int (pa_cons (pe_ix (r := rIxU K w) (ix_U hr.units) (pv 1) pe_int (fun _ _ => rfl)) pa_nil)) (pe_callB (r := rLenU K w) call_lenU (by rfl) T.b_len PySem.boot_len (pa_cons (pv 5) pa_nil))))
 (pss_one (ps_asg (pe_not (pe_ix (r := rIxU K w) (ix_U hr.units) (pe_ix (r := rIxU K w) (ix_U hr.units) (pv 5) (pv 6) (fun _ _ => rfl)) pe_int (fun _ _ => rfl))) (pg_sub (t := rSetX K w) (pe_ix (r := rIxU K w) (ix_U hr.units) (pv 5) (pv 6) (fun _ _ => rfl)) pe_int (set_X hr.units))))) pss_nil)
 (pss_one (ps_ret (pv 5))))))))))), run_def (E := E) rfl (fun W0 => ?_) h⟩
    exact (vs_seq (vs_asg (vt_call (va_cons (vt_call (va_cons (vt_var 0) (va_cons vt_int va_nil))) (va_cons (vt_vn (vn_cat (vt_vn (vn_lst (va_cons vt_int (va_cons vt_int va_nil)))) (vt_op ro_mul (vt_vn (vn_lst (va_cons vt_int (va_cons vt_int (va_cons vt_int va_nil))))) vt_int))) va_nil))) (vg_name 1))
 (vs_seq (vs_asg (vt_op ro_add vt_int (vt_cbS (b1 := false) rcs_int (va_cons (vt_ixv (i := 1) (b2 := false) vt_int) va_nil))) (vg_name 2))
 (vs_seq (vs_asgN (i := 3) (vn_lst va_nil))
 (vs_seq (vs_for (vi_rg1 (b := false) (va_cons (vt_look 2) va_nil)) (vg_name 4) (vs_append (i := 3) (vt_vn (vn_lst (va_cons (vt_opS (b1 := false) (b2 := false) ros_eq (vt_ixv (i := 1) (b2 := false) (vt_op ro_add vt_int (vt_op ro_mul vt_int (vt_look 4)))) vt_int) (va_cons (vt_vn (vn_lst (va_cons (vt_opS (b1 := false) (b2 := false) (ros_I (C := PosR) (f := fun i j => i % j)) (vt_cbS (b1 := false) rcs_int (va_cons (vt_ixv (i := 1) (b2 := false) (vt_op ro_add vt_int (vt_op ro_mul vt_int (vt_look 4)))) va_nil)) (vt_look 2)) (va_cons (vt_opS (b1 := false) (b2 := false) (ros_I (C := PosR) (f := fun i j => i % j)) (vt_cbS (b1 := false) rcs_int (va_cons (vt_ixv (i := 1) (b2 := false) (vt_op ro_add vt_int (vt_op ro_mul vt_int (vt_look 4)))) va_nil)) (vt_look 2)) va_nil)))) va_nil))))))
 (vs_seq (vs_if (vb_test (b := false) (vt_opS (b1 := false) (b2 := false) ros_cmp (vt_ixv (i := 1) (b2 := false) vt_int) vt_int)) (vs_ret (vt_var 3)) vs_next)
 (vs_seq (vs_asgT (i := 5) (vtr_call (va_cons (vt_var 2) va_nil)))
 (vs_seq (vs_if (vb_test (b := false) (vt_opS (b1 := false) (b2 := false) ros_eq (vt_ixv (i := 1) (b2 := false) vt_int) vt_int)) (vs_asgT (i := 5) (vtr_lst (vtrs_cons (vtr_lst (vtrs_cons (vtr_leaf vt_bl) (vtrs_cons (vtr_lst (vtrs_cons (vtr_leaf vt_int) (vtrs_cons (vtr_leaf vt_int) vtrs_nil))) vtrs_nil))) (vtrs_cons (vtr_lst (vtrs_cons (vtr_leaf vt_bl) (vtrs_cons (vtr_lst (vtrs_cons (vtr_leaf vt_int) (vtrs_cons (vtr_leaf vt_int) vtrs_nil))) vtrs_nil))) (vtrs_cons (vtr_lst (vtrs_cons (vtr_leaf vt_bl) (vtrs_cons (vtr_lst (vtrs_cons (vtr_leaf vt_int) (vtrs_cons (vtr_leaf vt_int) vtrs_nil))) vtrs_nil))) vtrs_nil))))) vs_next)
 (vs_seq (vs_if (vb_test (b := false) (vt_opS (b1 := false) (b2 := false) ros_cmp (vt_ixv (i := 1) (b2 := false) vt_int) vt_int)) (vs_seq (vs_asg (vt_opS (b1 := false) (b2 := false) (ros_I (C := PosR) (f := fun i j => i % j)) (vt_cbS (b1 := false) rcs_int (va_cons (vt_ixv (i := 1) (b2 := false) vt_int) va_nil)) (vt_cbS (b1 := false) rcs_len (va_cons (vt_alt (vt_view (vp_var 5)) (vt_var 5)) va_nil))) (vg_name 6))
 (vs_pSet (vp_ix (b := false) (vp_var 5) (vt_look 6)) vt_int (vtr_leaf (vt_notV (b1 := false) (vt_leafP (vp_ix (b := false) (vp_ix (b := false) (vp_var 5) (vt_look 6)) vt_int)))))) vs_next)
 (vs_frzT 5 (vs_ret (vt_var 5)))))))))))), hm, F.kp, b⟩

theorem ok__law_takes (T : Txt w K mg A)  {f : Addr} {fd : FuncData} (F : Fun K "_law_takes" "_law_takes" s__law_takes f fd) (hm : mg "_law_takes" = some (.ref f)) (b : Binds K fd ["states", "text"] []) :
    CalX P w K mg base CX0 1 "_law_takes" (spP (kw K w A.cls) (m__law_takes A)) :=
  ⟨f, fd, ["states", "text"], F.ok sc__law_takes (spP_len fun ds r h => (mOf_len h).1) (fun cdv A' outer s H vs Q E hr h => by
    refine ⟨_, (pss_cons (ps_set (i := 2) sc__law_takes.nd rfl (Or.inl rfl) pe_int)
 (pss_cons (ps_for PassesOwn.never rfl (pi_seqUK (K := K) rfl (pv 1)) (pg_name (i := 3) sc__law_takes.nd rfl (Or.inl rfl)) (pss_one (ps_set (i := 2) sc__law_takes.nd rfl (Or.inl rfl) (pe_ix (r := rIxU K w) (ix_U hr.units) (pe_ix (r := rIxU K w) (ix_U hr.units) (pe_ix (r := rIxU K w) (ix_U hr.units) (pv 0) (pv 2) (fun _ _ => rfl)) pe_int (fun _ _ => rfl)) (pe_idxS (K := K) rfl pe_str (pa_cons (pv 3) pa_nil)) (fun _ _ => rfl)))))
 (pss_one (ps_ret (pe_ix (r := rIxU K w) (ix_U hr.units) (pe_ix (r := rIxU K w) (ix_U hr.units) (pv 0) (pv 2) (fun _ _ => rfl)) pe_int (fun _ _ => rfl)))))), run_def (E := E) rfl (fun W0 => ?_) h⟩
    exact (vs_seq (vs_asg vt_int (vg_name 2))
 (vs_seq (vs_for (vi_seqU (vt_var 1)) (vg_name 3) (vs_asg (vt_op ro_ix (vt_op ro_ix (vt_ixv (i := 0) (b2 := false) (vt_look 2)) vt_int) (vt_idxS (b1 := false) (b2 := false) vt_str (vt_look 3))) (vg_name 2)))
 (vs_ret (vt_op ro_ix (vt_ixv (i := 0) (b2 := false) (vt_look 2)) vt_int))))), hm, F.kp, b⟩

theorem ok__law_classes (T : Txt w K mg A)  {f : Addr} {fd : FuncData} (F : Fun K "_law_classes" "_law_classes" s__law_classes f fd) (hm : mg "_law_classes" = some (.ref f)) (b : Binds K fd ["states"] []) :
    CalX P w K mg base CX0 1 "_law_classes" (spP (kw K w A.cls) (m__law_classes A)) :=
  ⟨f, fd, ["states"], F.ok sc__law_classes (spP_len fun ds r h => (mOf_len h).1) (fun cdv A' outer s H vs Q E hr h => by
    refine ⟨_, (pss_cons (ps_set (i := 1) sc__law_classes.nd rfl (Or.inr rfl) (pe_lc (own := [("state", 4)]) rfl sc__law_classes.nd (pi_seqUK (K := K) rfl (pv 0)) (blkOk_by (N := N__law_classes) (sc := defScope s__law_classes) (by decide +kernel)) (fun _ _ _ _ _ => (pg_name (i := 4) sc__law_classes.nd rfl (Or.inl rfl))) (fun _ _ _ _ _ => pts_nil) (fun _ _ _ _ _ => (pe_callTy call_intU (by rfl) T.b_int PyProof.Rows.boot_int (pa_cons (pe_ix (r := rIxU K w) (ix_U hr.units) (pv 4) pe_int (fun _ _ => rfl)) pa_nil)))))
 (pss_cons (ps_for PassesOwn.never rfl (pi_range1 (by rfl) T.b_range (pa_cons (pe_op (r := rAddU K) op_addU (pe_callB (r := rLenU K w) call_lenU (by rfl) T.b_len PySem.boot_len (pa_cons (pv 0) pa_nil)) pe_int) pa_nil)) (pg_name (i := 2) sc__law_classes.nd rfl (Or.inl rfl)) (pss_cons (ps_set (i := 3) sc__law_classes.nd rfl (Or.inr rfl) (pe_lc (own := [("k", 5)]) rfl sc__law_classes.nd (pi_range1 (by rfl) T.b_range (pa_cons (pe_callB (r := rLenU K w) call_lenU (by rfl) T.b_len PySem.boot_len (pa_cons (pv 0) pa_nil)) pa_nil)) (blkOk_by (N := N__law_classes) (sc := defScope s__law_classes) (by decide +kernel)) (fun _ _ _ _ _ => (pg_name (i := 5) sc__law_classes.nd rfl (Or.inl rfl))) (fun _ _ _ _ _ => pts_nil) (fun _ _ _ _ _ => (pe_tup (pa_cons (pe_ix (r := rIxU K w) (ix_U hr.units) (pv 1) (pv 5) (fun _ _ => rfl)) (pa_cons (pe_ix (r := rIxU K w) (ix_U hr.units) (pv 1) (pe_ix (r := rIxU K w) (ix_U hr.units) (pe_ix (r := rIxU K w) (ix_U hr.units) (pe_ix (r := rIxU K w) (ix_U hr.units) (pv 0) (pv 5) (fun _ _ => rfl)) pe_int (fun _ _ => rfl)) pe_int (fun _ _ => rfl)) (fun _ _ => rfl)) (pa_cons (pe_ix (r := rIxU K w) (ix_U hr.units) (pv 1) (pe_ix (r := rIxU K w) (ix_U hr.units) (pe_ix (r := rIxU K w) (ix_U hr.units) (pe_ix (r := rIxU K w) (ix_U hr.units) (pv 0) (pv 5) (fun _ _ => rfl)) pe_int (fun _ _ => rfl)) pe_int (fun _ _ => rfl)) (fun _ _ => rfl)) pa_nil)))))))
 (pss_one (ps_set (i := 1) sc__law_classes.nd rfl (Or.inr rfl) (pe_lc (own := [("key", 6)]) rfl sc__law_classes.nd (pi_seqUK (K := K) rfl (pv 3)) (blkOk_by (N := N__law_classes) (sc := defScope s__law_classes) (by decide +kernel)) (fun _ _ _ _ _ => (pg_name (i := 6) sc__law_classes.nd rfl (Or.inl rfl))) (fun _ _ _ _ _ => pts_nil) (fun _ _ _ _ _ => (pe_idxD (K := K) rfl (Room.units1 hr) (pv 3) (pa_cons (pv 6) pa_nil))))))))
 (pss_one (ps_ret (pv 1))))), run_def (E := E) rfl (fun W0 => ?_) h⟩
    exact (vs_seq (vs_asg (vt_vn (vn_lc (vi_seqU (vt_var 0)) (vg_name 4) (by decide) vb_yes (vt_cbS (b1 := false) rcs_int (va_cons (vt_ixv (i := 4) (b2 := false) vt_int) va_nil)))) (vg_name 1))
 (vs_seq (vs_for (vi_rg1 (b := false) (va_cons (vt_op ro_add (vt_cbS (b1 := false) rcs_len (va_cons (vt_look 0) va_nil)) vt_int) va_nil)) (vg_name 2) (vs_seq (vs_asg (vt_vn (vn_lc (vi_rg1 (b := false) (va_cons (vt_cbS (b1 := false) rcs_len (va_cons (vt_look 0) va_nil)) va_nil)) (vg_name 5) (by decide) vb_yes (vt_tup (va_cons (vt_ixv (i := 1) (b2 := false) (vt_look 5)) (va_cons (vt_ixv (i := 1) (b2 := false) (vt_op ro_ix (vt_op ro_ix (vt_ixv (i := 0) (b2 := false) (vt_look 5)) vt_int) vt_int)) (va_cons (vt_ixv (i := 1) (b2 := false) (vt_op ro_ix (vt_op ro_ix (vt_ixv (i := 0) (b2 := false) (vt_look 5)) vt_int) vt_int)) va_nil)))))) (vg_name 3))
 (vs_asg (vt_vn (vn_lc (vi_seqU (vt_var 3)) (vg_name 6) (by decide) vb_yes (vt_idxD (b1 := false) (b2 := false) (vt_look 3) (vt_look 6)))) (vg_name 1))))
 (vs_ret (vt_var 1))))), hm, F.kp, b⟩

theorem ok__law_belongs (T : Txt w K mg A)  {f : Addr} {fd : FuncData} (F : Fun K "_law_belongs" "_law_belongs" s__law_belongs f fd) (hm : mg "_law_belongs" = some (.ref f)) (b : Binds K fd ["text"] []) :
    CalX P w K mg base CX0 1 "_law_belongs" (spP (kw K w A.cls) (m__law_belongs A)) :=
  ⟨f, fd, ["text"], F.ok sc__law_belongs (spP_len fun ds r h => (mOf_len h).1) (fun cdv A' outer s H vs Q E hr h => by
    refine ⟨_, (pss_cons (ps_set (i := 1) sc__law_belongs.nd rfl (Or.inl rfl) (pe_op op_fdivW (pe_callB (r := rLenU K w) call_lenU (by rfl) T.b_len PySem.boot_len (pa_cons (pv 0) pa_nil)) pe_int))
 (pss_one (ps_ret (pe_cmpR (r := rEqU K) (op_eqU hr.units) (pv 0) (pe_op (r := rAddU K) op_addU (pe_op op_mulU pe_str (pv 1)) (pe_op op_mulU pe_str (pv 1))) (nomark _))))), run_def (E := E) rfl (fun W0 => ?_) h⟩
    exact (vs_seq (vs_asg (vt_opS (b1 := false) (b2 := false) (ros_I (C := CDivW) (f := fun i j => i / j)) (vt_cbS (b1 := false) rcs_len (va_cons (vt_look 0) va_nil)) vt_int) (vg_name 1))
 (vs_ret (vt_opS (b1 := false) (b2 := false) ros_eq (vt_look 0) (vt_op ro_add (vt_op ro_mul vt_str (vt_look 1)) (vt_op ro_mul vt_str (vt_look 1))))))), hm, F.kp, b⟩

theorem ok__law_says (T : Txt w K mg A) (c__law_belongs : CalX P w K mg base CX0 1 "_law_belongs" (spP (kw K w A.cls) (m__law_belongs A))) (c_in_same_counts : CalX P w K mg base CX0 1 "in_same_counts" (spP (kw K w A.cls) (m_in_same_counts A))) {f : Addr} {fd : FuncData} (F : Fun K "_law_says" "_law_says" s__law_says f fd) (hm : mg "_law_says" = some (.ref f)) (b : Binds K fd ["text"] []) :
    CalX P w K mg base CX0 2 "_law_says" (spP (kw K w A.cls) (m__law_says A)) :=
  ⟨f, fd, ["text"], F.ok sc__law_says (spP_len fun ds r h => (mOf_len h).1) (fun cdv A' outer s H vs Q E hr h => by
    refine ⟨_, (pss_cons (ps_set (i := 1) sc__law_says.nd rfl (Or.inl rfl) (pe_cx c_in_same_counts hr (by decide) pass0 (by rfl) (pa_cons (pv 0) pa_nil)))
 (pss_one (ps_ret (pe_and (pe_callB (r := rIsi K) call_isi (by rfl) T.b_isinstance (by decide +kernel) (pa_cons (pv 1) (pa_cons (pe_bltn (v := .ty "bool") (u := .type "bool") (by rfl) T.b_bool (by decide +kernel) rfl) pa_nil))) (pe_one (pe_cmpR (r := rEqU K) (op_eqU hr.units) (pv 1) (pe_cx c__law_belongs hr (by decide) pass0 (by rfl) (pa_cons (pv 0) pa_nil)) (nomark _))))))), run_def (E := E) rfl (fun W0 => ?_) h⟩
    exact (vs_seq (vs_asg (vt_call (va_cons (vt_var 0) va_nil)) (vg_name 1))
 (vs_ret (vt_andV (b1 := false) (b2 := false) (vt_isi (n := "bool") (b1 := false) (vt_look 1)) (vt_opS (b1 := false) (b2 := false) ros_eq (vt_look 1) (vt_call (va_cons (vt_look 0) va_nil))))))), hm, F.kp, b⟩

theorem ok__law_differs (T : Txt w K mg A) (c_Automaton : MakX P w K mg base CX0 3 "Automaton" A.C_Automaton (spI (kw K w A.cls) A.C_Automaton (i_Automaton A))) (c_beat_same_counts : CalX P w K mg base (L2.CX P w) 4 "beat_same_counts" (spP (kw K w A.cls) (m_beat_same_counts A))) {f : Addr} {fd : FuncData} (F : Fun K "_law_differs" "_law_differs" s__law_differs f fd) (hm : mg "_law_differs" = some (.ref f)) (b : Binds K fd [] []) :
    CalX P w K mg base CX0 5 "_law_differs" (spP (kw K w A.cls) (m__law_differs A)) :=
  ⟨f, fd, [], F.ok sc__law_differs (spP_len fun ds r h => (mOf_len h).1) (fun cdv A' outer s H vs Q E hr h => by
    refine ⟨_, (pss_cons (ps_tryG (K := K) (i := 0) (Wout := fun _ _ _ _ => False) rfl rfl rfl sc__law_differs.nd rfl rfl ⟨rfl, by decide, Or.inl T.g_AlphabetsDiffer⟩ takes0 (fun W pn xe tk _ => (pss_one (ps_expr (pe_csx c_beat_same_counts hr (by decide) (fun σ => passAt tk σ) (by rfl) (pa_cons (pe_mx c_Automaton hr (by decide) pass0 (by rfl) (pa_cons pe_str (pa_cons (pe_lst (pa_cons (pe_tup (pa_cons pe_bl (pa_cons (pe_lst (pa_cons pe_int (pa_cons pe_int (pa_cons pe_int pa_nil)))) pa_nil))) pa_nil)) pa_nil))) pa_nil))))) (fun a oe cls d pn hz hf => (pss_one (ps_ret (pe_and (pe_callB (r := rIsX K A.C_AlphabetsDiffer a cls d) (call_isX T.y_AlphabetsDiffer hz hf) (by rfl) T.b_isinstance (by decide +kernel) (pa_cons (pv 0) (pa_cons (pe_glob (v := .ref A.C_LeashError) (by rfl) T.g_LeashError rfl) pa_nil))) (pe_and (pe_cmpR (r := rEqU K) (op_eqU hr.units) (pe_xf T.x_AlphabetsDiffer T.xn_AlphabetsDiffer_one hz hf (pv 0)) pe_str (nomark _)) (pe_one (pe_cmpR (r := rEqU K) (op_eqU hr.units) (pe_xf T.x_AlphabetsDiffer T.xn_AlphabetsDiffer_two hz hf (pv 0)) pe_str (nomark _)))))))))
 (pss_one (ps_ret pe_bl))), run_def (E := E) rfl (fun W0 => ?_) h⟩
    exact (vs_seq (vs_tryG T.x_AlphabetsDiffer_AlphabetsDiffer (fun Wx => (y_expr (vtx_callS (va_cons (vt_make (va_cons vt_str (va_cons (vt_vn (vn_lst (va_cons (vt_tup (va_cons vt_bl (va_cons (vt_vn (vn_lst (va_cons vt_int (va_cons vt_int (va_cons vt_int va_nil))))) va_nil))) va_nil))) va_nil))) va_nil)))) (fun a d => (vs_ret (vt_andV (b1 := false) (b2 := false) (vt_isX (i := 0) (fun u h => h) T.q_AlphabetsDiffer_LeashError) (vt_andV (b1 := false) (b2 := false) (vt_opS (b1 := false) (b2 := false) ros_eq vt_xf vt_str) (vt_opS (b1 := false) (b2 := false) ros_eq vt_xf vt_str))))))
 (vs_ret vt_bl))), hm, F.kp, b⟩

theorem ok_law (T : Txt w K mg A) (c_Automaton : MakX P w K mg base CX0 3 "Automaton" A.C_Automaton (spI (kw K w A.cls) A.C_Automaton (i_Automaton A))) (c__law_belongs : CalX P w K mg base CX0 1 "_law_belongs" (spP (kw K w A.cls) (m__law_belongs A))) (c__law_cell : CalX P w K mg base CX0 1 "_law_cell" (spP (kw K w A.cls) (m__law_cell A))) (c__law_classes : CalX P w K mg base CX0 1 "_law_classes" (spP (kw K w A.cls) (m__law_classes A))) (c__law_differs : CalX P w K mg base CX0 5 "_law_differs" (spP (kw K w A.cls) (m__law_differs A))) (c__law_digits : CalX P w K mg base CX0 1 "_law_digits" (spP (kw K w A.cls) (m__law_digits A))) (c__law_says : CalX P w K mg base CX0 2 "_law_says" (spP (kw K w A.cls) (m__law_says A))) (c__law_states : CalX P w K mg base CX0 2 "_law_states" (spP (kw K w A.cls) (m__law_states A))) (c__law_takes : CalX P w K mg base CX0 1 "_law_takes" (spP (kw K w A.cls) (m__law_takes A))) (c_beat_same_counts : CalX P w K mg base (L2.CX P w) 4 "beat_same_counts" (spP (kw K w A.cls) (m_beat_same_counts A))) {f : Addr} {fd : FuncData} (F : Fun K "law" "law" s_law f fd) (hm : mg "law" = some (.ref f)) (b : Binds K fd ["script"] []) :
    CalX P w K mg base CX0 6 "law" (spP (kw K w A.cls) (m_law A)) :=
  ⟨f, fd, ["script"], F.ok sc_law (spP_len fun ds r h => (mOf_len h).1) (fun cdv A' outer s H vs Q E hr h => by
    refine ⟨_, (pss_cons (ps_set (i := 1) sc_law.nd rfl (Or.inl rfl) (pe_cx c__law_states hr (by decide) pass0 (by rfl) (pa_cons (pv 0) pa_nil)))
 (pss_cons (ps_set (i := 2) sc_law.nd rfl (Or.inl rfl) (pe_cx c__law_classes hr (by decide) pass0 (by rfl) (pa_cons (pv 1) pa_nil)))
 (pss_cons (ps_set (i := 3) sc_law.nd rfl (Or.inl rfl) (pe_lst pa_nil))
 (pss_cons (ps_set (i := 4) sc_law.nd rfl (Or.inl rfl) pe_int)
 (pss_cons (ps_for PassesOwn.never rfl (pi_range1 (by rfl) T.b_range (pa_cons (pe_op (r := rAddU K) op_addU (pe_callB (r := rLenU K w) call_lenU (by rfl) T.b_len PySem.boot_len (pa_cons (pv 1) pa_nil)) pe_int) pa_nil)) (pg_name (i := 5) sc_law.nd rfl (Or.inl rfl)) (pss_cons (ps_if (pt_cmpR (r := rInU K w) (op_inU (Room.units1 hr)) (pe_ix (r := rIxU K w) (ix_U hr.units) (pv 2) (pv 4) (fun _ _ => rfl)) (pv 3) (by with_unfolding_all rfl)) (pss_one ps_break) pss_nil)
 (pss_cons (ps_expr (pe_bm PySem.F.plainAttrs_list PySem.F.slot_list_append PySem.F.type_list_append mt_append (pv 3) (pa_cons (pe_ix (r := rIxU K w) (ix_U hr.units) (pv 2) (pv 4) (fun _ _ => rfl)) pa_nil)))
 (pss_one (ps_set (i := 4) sc_law.nd rfl (Or.inl rfl) (pe_ix (r := rIxU K w) (ix_U hr.units) (pe_ix (r := rIxU K w) (ix_U hr.units) (pe_ix (r := rIxU K w) (ix_U hr.units) (pv 1) (pv 4) (fun _ _ => rfl)) pe_int (fun _ _ => rfl)) pe_int (fun _ _ => rfl)))))))
 (pss_cons (ps_set (i := 6) sc_law.nd rfl (Or.inl rfl) (pe_idxD (K := K) rfl (Room.units1 hr) (pv 3) (pa_cons (pe_ix (r := rIxU K w) (ix_U hr.units) (pv 2) (pv 4) (fun _ _ => rfl)) pa_nil)))
 (pss_cons (ps_set (i := 7) sc_law.nd rfl (Or.inl rfl) (pe_op (r := rAddU K) op_addU (pe_op op_mulU pe_str (pv 6)) (pe_op op_mulU pe_str (pv 6))))
 (pss_cons (ps_if (pt_truthK (K := K) rfl (pe_cx c__law_takes hr (by decide) pass0 (by rfl) (pa_cons (pv 1) (pa_cons (pv 7) pa_nil))) (fun _ => rfl)) (pss_one (ps_set (i := 7) sc_law.nd rfl (Or.inl rfl) (pe_op (r := rAddU K) op_addU (pe_op op_mulU pe_str (pe_callB (r := rLenU K w) call_lenU (by rfl) T.b_len PySem.boot_len (pa_cons (pv 3) pa_nil))) (pe_op op_mulU pe_str (pv 6))))) pss_nil)
 (pss_cons (ps_set (i := 8) sc_law.nd rfl (Or.inl rfl) (pe_cx c_beat_same_counts hr (by decide) passL (by rfl) (pa_cons (pe_mx c_Automaton hr (by decide) pass0 (by rfl) (pa_cons pe_str (pa_cons (pe_lc (own := [("one", 12)]) rfl sc_law.nd (pi_seqUK (K := K) rfl (pv 1)) (blkOk_by (N := N_law) (sc := defScope s_law) (by decide +kernel)) (fun _ _ _ _ _ => (pg_name (i := 12) sc_law.nd rfl (Or.inl rfl))) (fun _ _ _ _ _ => pts_nil) (fun _ _ _ _ _ => (pe_callTy (r := rListU K) call_listU (by rfl) T.b_list PyProof.Rows.boot_list (pa_cons (pv 12) pa_nil)))) pa_nil))) pa_nil)))
 (pss_cons (ps_if (PW.pt (pw_or (pt_cmpR (r := rNeU K) (op_neU hr.units) (pe_fldK (K := K) rfl (pv 8) rfl) (pv 7) (nomark _)) (pw_or (pt_not (pt_truthK (K := K) rfl (pe_callB (r := rIsi K) call_isi (by rfl) T.b_isinstance (by decide +kernel) (pa_cons (pe_fldK (K := K) rfl (pv 8) rfl) (pa_cons (pe_bltn (v := .ty "bool") (u := .type "bool") (by rfl) T.b_bool (by decide +kernel) rfl) pa_nil))) (fun _ => rfl))) (pw_or1 (pt_not (pt_truthK (K := K) rfl (pe_callB (r := rIsi K) call_isi (by rfl) T.b_isinstance (by decide +kernel) (pa_cons (pe_fldK (K := K) rfl (pv 8) rfl) (pa_cons (pe_bltn (v := .ty "bool") (u := .type "bool") (by rfl) T.b_bool (by decide +kernel) rfl) pa_nil))) (fun _ => rfl))))))) (pss_one (ps_ret pe_bl)) pss_nil)
 (pss_cons (ps_if (PW.pt (pw_or (pt_cmpR (r := rNeU K) (op_neU hr.units) (pe_fldK (K := K) rfl (pv 8) rfl) (pe_cx c__law_takes hr (by decide) pass0 (by rfl) (pa_cons (pv 1) (pa_cons (pv 7) pa_nil))) (nomark _)) (pw_or (pt_cmpR (r := rNeU K) (op_neU hr.units) (pe_fldK (K := K) rfl (pv 8) rfl) (pe_cx c__law_belongs hr (by decide) pass0 (by rfl) (pa_cons (pv 7) pa_nil)) (nomark _)) (pw_or1 (pt_cmpR (r := rEqU K) (op_eqU hr.units) (pe_fldK (K := K) rfl (pv 8) rfl) (pe_fldK (K := K) rfl (pv 8) rfl) (nomark _)))))) (pss_one (ps_ret pe_bl)) pss_nil)
 (pss_cons (ps_set (i := 9) sc_law.nd rfl (Or.inl rfl) (pe_cx c__law_digits hr (by decide) pass0 (by rfl) (pa_cons (pe_cx c__law_cell hr (by decide) pass0 (by rfl) (pa_cons (pv 0) (pa_cons pe_int pa_nil))) (pa_cons (pe_lst (pa_cons pe_int (pa_cons pe_int (pa_cons pe_int (pa_cons pe_int pa_nil))))) pa_nil))))
 (pss_cons (ps_set (i := 10) sc_law.nd rfl (Or.inl rfl) (pe_lst (pa_cons (pv 7) (pa_cons (pe_op (r := rAddU K) op_addU (pe_op op_mulU pe_str (pe_callTy call_intU (by rfl) T.b_int PyProof.Rows.boot_int (pa_cons (pe_ix (r := rIxU K w) (ix_U hr.units) (pv 9) pe_int (fun _ _ => rfl)) pa_nil))) (pe_op op_mulU pe_str (pe_callTy call_intU (by rfl) T.b_int PyProof.Rows.boot_int (pa_cons (pe_ix (r := rIxU K w) (ix_U hr.units) (pv 9) pe_int (fun _ _ => rfl)) pa_nil)))) (pa_cons pe_str (pa_cons (pe_op op_mulU pe_str (pe_callTy call_intU (by rfl) T.b_int PyProof.Rows.boot_int (pa_cons (pe_ix (r := rIxU K w) (ix_U hr.units) (pv 9) pe_int (fun _ _ => rfl)) pa_nil))) (pa_cons pe_str (pa_cons pe_str (pa_cons pe_str (pa_cons pe_str (pa_cons pe_str (pa_cons pe_str pa_nil))))))))))))
 (pss_cons (ps_for PassesOwn.never rfl (pi_seqUK (K := K) rfl (pv 10)) (pg_name (i := 11) sc_law.nd rfl (Or.inl rfl)) (pss_one (ps_if (PW.pt (pw_or (pt_not (pt_truthK (K := K) rfl (pe_cx c__law_says hr (by decide) pass0 (by rfl) (pa_cons (pv 11) pa_nil)) (fun _ => rfl))) (pw_or1 (pt_not (pt_truthK (K := K) rfl (pe_cx c__law_says hr (by decide) pass0 (by rfl) (pa_cons (pe_op (r := rAddU K) op_addU (pe_op (r := rAddU K) op_addU (pe_op op_mulU pe_str (pe_callTy call_intU (by rfl) T.b_int PyProof.Rows.boot_int (pa_cons (pe_ix (r := rIxU K w) (ix_U hr.units) (pv 9) pe_int (fun _ _ => rfl)) pa_nil))) (pv 11)) (pe_op op_mulU pe_str (pe_callTy call_intU (by rfl) T.b_int PyProof.Rows.boot_int (pa_cons (pe_ix (r := rIxU K w) (ix_U hr.units) (pv 9) pe_int (fun _ _ => rfl)) pa_nil)))) pa_nil)) (fun _ => rfl)))))) (pss_one (ps_ret pe_bl)) pss_nil)))
 (pss_one (ps_ret (pe_cx0 c__law_differs hr (by decide) pass0 (by rfl)))))))))))))))))), run_def (E := E) rfl (fun W0 => ?_) h⟩
    exact (vs_seq (vs_asg (vt_call (va_cons (vt_var 0) va_nil)) (vg_name 1))
 (vs_seq (vs_asg (vt_call (va_cons (vt_var 1) va_nil)) (vg_name 2))
 (vs_seq (vs_asgN (i := 3) (vn_lst va_nil))
 (vs_seq (vs_asg vt_int (vg_name 4))
 (vs_seq (vs_for (vi_rg1 (b := false) (va_cons (vt_op ro_add (vt_cbS (b1 := false) rcs_len (va_cons (vt_look 1) va_nil)) vt_int) va_nil)) (vg_name 5) (vs_seq (vs_if (vb_test (b := false) (vt_opS (b1 := false) (b2 := false) ros_in (vt_ixv (i := 2) (b2 := false) (vt_look 4)) (vt_look 3))) vs_break vs_next)
 (vs_seq (vs_append (i := 3) (vt_ixv (i := 2) (b2 := false) (vt_look 4)))
 (vs_asg (vt_op ro_ix (vt_op ro_ix (vt_ixv (i := 1) (b2 := false) (vt_look 4)) vt_int) vt_int) (vg_name 4)))))
 (vs_seq (vs_asg (vt_idxD (b1 := false) (b2 := false) (vt_look 3) (vt_ixv (i := 2) (b2 := false) (vt_look 4))) (vg_name 6))
 (vs_seq (vs_asg (vt_op ro_add (vt_op ro_mul vt_str (vt_var 6)) (vt_op ro_mul vt_str (vt_var 6))) (vg_name 7))
 (vs_seq (vs_if (vb_tru (b := false) (vt_call (va_cons (vt_look 1) (va_cons (vt_look 7) va_nil)))) (vs_asg (vt_op ro_add (vt_op ro_mul vt_str (vt_cbS (b1 := false) rcs_len (va_cons (vt_look 3) va_nil))) (vt_op ro_mul vt_str (vt_var 6))) (vg_name 7)) vs_next)
 (vs_seq (vs_asg (vt_call (va_cons (vt_make (va_cons vt_str (va_cons (vt_vn (vn_lc (vi_seqU (vt_var 1)) (vg_name 12) (by decide) vb_yes (vt_vn (vn_list (vt_var 12))))) va_nil))) va_nil)) (vg_name 8))
 (vs_seq (vs_if (vb_or (vb_test (b := false) (vt_opS (b1 := false) (b2 := false) ros_ne (vt_fld T.c_Beaten T.n_Beaten_text (vt_look 8)) (vt_look 7))) (vb_or (vb_not (vb_tru (b := false) (vt_isi (n := "bool") (b1 := false) (vt_fld T.c_Beaten T.n_Beaten_taken (vt_look 8))))) (vb_not (vb_tru (b := false) (vt_isi (n := "bool") (b1 := false) (vt_fld T.c_Beaten T.n_Beaten_belongs (vt_look 8))))))) (vs_ret vt_bl) vs_next)
 (vs_seq (vs_if (vb_or (vb_test (b := false) (vt_opS (b1 := false) (b2 := false) ros_ne (vt_fld T.c_Beaten T.n_Beaten_taken (vt_look 8)) (vt_call (va_cons (vt_look 1) (va_cons (vt_look 7) va_nil))))) (vb_or (vb_test (b := false) (vt_opS (b1 := false) (b2 := false) ros_ne (vt_fld T.c_Beaten T.n_Beaten_belongs (vt_look 8)) (vt_call (va_cons (vt_look 7) va_nil)))) (vb_test (b := false) (vt_opS (b1 := false) (b2 := false) ros_eq (vt_fld T.c_Beaten T.n_Beaten_taken (vt_look 8)) (vt_fld T.c_Beaten T.n_Beaten_belongs (vt_look 8)))))) (vs_ret vt_bl) vs_next)
 (vs_seq (vs_asg (vt_call (va_cons (vt_call (va_cons (vt_var 0) (va_cons vt_int va_nil))) (va_cons (vt_vn (vn_lst (va_cons vt_int (va_cons vt_int (va_cons vt_int (va_cons vt_int va_nil)))))) va_nil))) (vg_name 9))
 (vs_seq (vs_asg (vt_vn (vn_lst (va_cons (vt_var 7) (va_cons (vt_op ro_add (vt_op ro_mul vt_str (vt_cbS (b1 := false) rcs_int (va_cons (vt_ixv (i := 9) (b2 := false) vt_int) va_nil))) (vt_op ro_mul vt_str (vt_cbS (b1 := false) rcs_int (va_cons (vt_ixv (i := 9) (b2 := false) vt_int) va_nil)))) (va_cons vt_str (va_cons (vt_op ro_mul vt_str (vt_cbS (b1 := false) rcs_int (va_cons (vt_ixv (i := 9) (b2 := false) vt_int) va_nil))) (va_cons vt_str (va_cons vt_str (va_cons vt_str (va_cons vt_str (va_cons vt_str (va_cons vt_str va_nil)))))))))))) (vg_name 10))
 (vs_seq (vs_for (vi_seqU (vt_var 10)) (vg_name 11) (vs_if (vb_or (vb_not (vb_tru (b := false) (vt_call (va_cons (vt_look 11) va_nil)))) (vb_not (vb_tru (b := false) (vt_call (va_cons (vt_op ro_add (vt_op ro_add (vt_op ro_mul vt_str (vt_cbS (b1 := false) rcs_int (va_cons (vt_ixv (i := 9) (b2 := false) vt_int) va_nil))) (vt_look 11)) (vt_op ro_mul vt_str (vt_cbS (b1 := false) rcs_int (va_cons (vt_ixv (i := 9) (b2 := false) vt_int) va_nil)))) va_nil))))) (vs_ret vt_bl) vs_next))
 (vs_ret (vt_call va_nil))))))))))))))))), hm, F.kp, b⟩

end
end K77
end

section
namespace K77
open PySem PySem.Spec PyProof.Rows L2 VL

abbrev s_x_AlphabetsDiffer : Stmt := inClass (top 7) 0
abbrev N_x_AlphabetsDiffer : List Str := ["self", "one", "two"]
theorem sc_x_AlphabetsDiffer : FnScope N_x_AlphabetsDiffer ["self", "one", "two"] (defScope s_x_AlphabetsDiffer) := ⟨rfl, rfl, rfl, by decide +kernel, rfl, by decide +kernel, by decide +kernel⟩
section
variable {P : Program} {w : World} {K : PySem.W.Frag} {mg : Str → Option Value} {base : Heap} {A : Ad}
theorem ok_x_AlphabetsDiffer (T : Txt w K mg A) (O : OexC K A.C_AlphabetsDiffer) {f : Addr} {fd : FuncData} (iC : PySem.W.findIn K (.ref A.C_AlphabetsDiffer) "__init__" = some (some (.ref f))) (tI : PySem.W.typeIn K (.ref f) = some (.type "function")) (F : Fun K "__init__" "AlphabetsDiffer.__init__" s_x_AlphabetsDiffer f fd) (b : Binds K fd ["self", "one", "two"] []) :
    ExcX P w K mg base 1 "AlphabetsDiffer" A.C_AlphabetsDiffer (spX2 A.C_AlphabetsDiffer "one" "two") :=
  ⟨f, fd, ["self", "one", "two"], O, iC, tI, F.ok sc_x_AlphabetsDiffer (fun vs H Q E h => by obtain ⟨a, y, z, rfl, _⟩ := h; rfl) (fun cdv A' outer s H vs Q E hr h => ⟨_, (pss_cons (ps_ost (pv 0) (pv 1) rfl) (pss_one (ps_ost (pv 0) (pv 2) rfl))), x2_run (K := kw K w A.cls) O T.xn_AlphabetsDiffer_one T.xn_AlphabetsDiffer_two h⟩), b, T.g_AlphabetsDiffer⟩
theorem okF_law (T : Txt w K mg A) (c_Automaton : MakX P w K mg base CX0 3 "Automaton" A.C_Automaton (spI (kw K w A.cls) A.C_Automaton (i_Automaton A))) (c__law_belongs : CalX P w K mg base CX0 1 "_law_belongs" (spP (kw K w A.cls) (m__law_belongs A))) (c__law_cell : CalX P w K mg base CX0 1 "_law_cell" (spP (kw K w A.cls) (m__law_cell A))) (c__law_classes : CalX P w K mg base CX0 1 "_law_classes" (spP (kw K w A.cls) (m__law_classes A))) (c__law_differs : CalX P w K mg base CX0 5 "_law_differs" (spP (kw K w A.cls) (m__law_differs A))) (c__law_digits : CalX P w K mg base CX0 1 "_law_digits" (spP (kw K w A.cls) (m__law_digits A))) (c__law_says : CalX P w K mg base CX0 2 "_law_says" (spP (kw K w A.cls) (m__law_says A))) (c__law_states : CalX P w K mg base CX0 2 "_law_states" (spP (kw K w A.cls) (m__law_states A))) (c__law_takes : CalX P w K mg base CX0 1 "_law_takes" (spP (kw K w A.cls) (m__law_takes A))) (c_beat_same_counts : CalX P w K mg base (L2.CX P w) 4 "beat_same_counts" (spP (kw K w A.cls) (m_beat_same_counts A))) {f : Addr} {fd : FuncData} (F : Fun K "law" "law" s_law f fd) : FnOk P w K mg base CX0 6 f fd ["script"] (spP (kw K w A.cls) (m_law A)) :=
  F.ok sc_law (spP_len fun ds r h => (mOf_len h).1) (fun cdv A' outer s H vs Q E hr h => by
    refine ⟨_, (pss_cons (ps_set (i := 1) sc_law.nd rfl (Or.inl rfl) (pe_cx c__law_states hr (by decide) pass0 (by rfl) (pa_cons (pv 0) pa_nil)))
 (pss_cons (ps_set (i := 2) sc_law.nd rfl (Or.inl rfl) (pe_cx c__law_classes hr (by decide) pass0 (by rfl) (pa_cons (pv 1) pa_nil)))
 (pss_cons (ps_set (i := 3) sc_law.nd rfl (Or.inl rfl) (pe_lst pa_nil))
 (pss_cons (ps_set (i := 4) sc_law.nd rfl (Or.inl rfl) pe_int)
 (pss_cons (ps_for PassesOwn.never rfl (pi_range1 (by rfl) T.b_range (pa_cons (pe_op (r := rAddU K) op_addU (pe_callB (r := rLenU K w) call_lenU (by rfl) T.b_len PySem.boot_len (pa_cons (pv 1) pa_nil)) pe_int) pa_nil)) (pg_name (i := 5) sc_law.nd rfl (Or.inl rfl)) (pss_cons (ps_if (pt_cmpR (r := rInU K w) (op_inU (Room.units1 hr)) (pe_ix (r := rIxU K w) (ix_U hr.units) (pv 2) (pv 4) (fun _ _ => rfl)) (pv 3) (by with_unfolding_all rfl)) (pss_one ps_break) pss_nil)
 (pss_cons (ps_expr (pe_bm PySem.F.plainAttrs_list PySem.F.slot_list_append PySem.F.type_list_append mt_append (pv 3) (pa_cons (pe_ix (r := rIxU K w) (ix_U hr.units) (pv 2) (pv 4) (fun _ _ => rfl)) pa_nil)))
 (pss_one (ps_set (i := 4) sc_law.nd rfl (Or.inl rfl) (pe_ix (r := rIxU K w) (ix_U hr.units) (pe_ix (r := rIxU K w) (ix_U hr.units) (pe_ix (r := rIxU K w) (ix_U hr.units) (pv 1) (pv 4) (fun _ _ => rfl)) pe_int (fun _ _ => rfl)) pe_int (fun _ _ => rfl)))))))
 (pss_cons (ps_set (i := 6) sc_law.nd rfl (Or.inl rfl) (pe_idxD (K := K) rfl (Room.units1 hr) (pv 3) (pa_cons (pe_ix (r := rIxU K w) (ix_U hr.units) (pv 2) (pv 4) (fun _ _ => rfl)) pa_nil)))
 (pss_cons (ps_set (i := 7) sc_law.nd rfl (Or.inl rfl) (pe_op (r := rAddU K) op_addU (pe_op op_mulU pe_str (pv 6)) (pe_op op_mulU pe_str (pv 6))))
 (pss_cons (ps_if (pt_truthK (K := K) rfl (pe_cx c__law_takes hr (by decide) pass0 (by rfl) (pa_cons (pv 1) (pa_cons (pv 7) pa_nil))) (fun _ => rfl)) (pss_one (ps_set (i := 7) sc_law.nd rfl (Or.inl rfl) (pe_op (r := rAddU K) op_addU (pe_op op_mulU pe_str (pe_callB (r := rLenU K w) call_lenU (by rfl) T.b_len PySem.boot_len (pa_cons (pv 3) pa_nil))) (pe_op op_mulU pe_str (pv 6))))) pss_nil)
 (pss_cons (ps_set (i := 8) sc_law.nd rfl (Or.inl rfl) (pe_cx c_beat_same_counts hr (by decide) passL (by rfl) (pa_cons (pe_mx c_Automaton hr (by decide) pass0 (by rfl) (pa_cons pe_str (pa_cons (pe_lc (own := [("one", 12)]) rfl sc_law.nd (pi_seqUK (K := K) rfl (pv 1)) (blkOk_by (N := N_law) (sc := defScope s_law) (by decide +kernel)) (fun _ _ _ _ _ => (pg_name (i := 12) sc_law.nd rfl (Or.inl rfl))) (fun _ _ _ _ _ => pts_nil) (fun _ _ _ _ _ => (pe_callTy (r := rListU K) call_listU (by rfl) T.b_list PyProof.Rows.boot_list (pa_cons (pv 12) pa_nil)))) pa_nil))) pa_nil)))
 (pss_cons (ps_if (PW.pt (pw_or (pt_cmpR (r := rNeU K) (op_neU hr.units) (pe_fldK (K := K) rfl (pv 8) rfl) (pv 7) (nomark _)) (pw_or (pt_not (pt_truthK (K := K) rfl (pe_callB (r := rIsi K) call_isi (by rfl) T.b_isinstance (by decide +kernel) (pa_cons (pe_fldK (K := K) rfl (pv 8) rfl) (pa_cons (pe_bltn (v := .ty "bool") (u := .type "bool") (by rfl) T.b_bool (by decide +kernel) rfl) pa_nil))) (fun _ => rfl))) (pw_or1 (pt_not (pt_truthK (K := K) rfl (pe_callB (r := rIsi K) call_isi (by rfl) T.b_isinstance (by decide +kernel) (pa_cons (pe_fldK (K := K) rfl (pv 8) rfl) (pa_cons (pe_bltn (v := .ty "bool") (u := .type "bool") (by rfl) T.b_bool (by decide +kernel) rfl) pa_nil))) (fun _ => rfl))))))) (pss_one (ps_ret pe_bl)) pss_nil)
 (pss_cons (ps_if (PW.pt (pw_or (pt_cmpR (r := rNeU K) (op_neU hr.units) (pe_fldK (K := K) rfl (pv 8) rfl) (pe_cx c__law_takes hr (by decide) pass0 (by rfl) (pa_cons (pv 1) (pa_cons (pv 7) pa_nil))) (nomark _)) (pw_or (pt_cmpR (r := rNeU K) (op_neU hr.units) (pe_fldK (K := K) rfl (pv 8) rfl) (pe_cx c__law_belongs hr (by decide) pass0 (by rfl) (pa_cons (pv 7) pa_nil)) (nomark _)) (pw_or1 (pt_cmpR (r := rEqU K) (op_eqU hr.units) (pe_fldK (K := K) rfl (pv 8) rfl) (pe_fldK (K := K) rfl (pv 8) rfl) (nomark _)))))) (pss_one (ps_ret pe_bl)) pss_nil)
 (pss_cons (ps_set (i := 9) sc_law.nd rfl (Or.inl rfl) (pe_cx c__law_digits hr (by decide) pass0 (by rfl) (pa_cons (pe_cx c__law_cell hr (by decide) pass0 (by rfl) (pa_cons (pv 0) (pa_cons pe_int pa_nil))) (pa_cons (pe_lst (pa_cons pe_int (pa_cons pe_int (pa_cons pe_int (pa_cons pe_int pa_nil))))) pa_nil))))
 (pss_cons (ps_set (i := 10) sc_law.nd rfl (Or.inl rfl) (pe_lst (pa_cons (pv 7) (pa_cons (pe_op (r := rAddU K) op_addU (pe_op op_mulU pe_str (pe_callTy call_intU (by rfl) T.b_int PyProof.Rows.boot_int (pa_cons (pe_ix (r := rIxU K w) (ix_U hr.units) (pv 9) pe_int (fun _ _ => rfl)) pa_nil))) (pe_op op_mulU pe_str (pe_callTy call_intU (by rfl) T.b_int PyProof.Rows.boot_int (pa_cons (pe_ix (r := rIxU K w) (ix_U hr.units) (pv 9) pe_int (fun _ _ => rfl)) pa_nil)))) (pa_cons pe_str (pa_cons (pe_op op_mulU pe_str (pe_callTy call_intU (by rfl) T.b_int PyProof.Rows.boot_int (pa_cons (pe_ix (r := rIxU K w) (ix_U hr.units) (pv 9) pe_int (fun _ _ => rfl)) pa_nil))) (pa_cons pe_str (pa_cons pe_str (pa_cons pe_str (pa_cons pe_str (pa_cons pe_str (pa_cons pe_str pa_nil))))))))))))
 (pss_cons (ps_for PassesOwn.never rfl (pi_seqUK (K := K) rfl (pv 10)) (pg_name (i := 11) sc_law.nd rfl (Or.inl rfl)) (pss_one (ps_if (PW.pt (pw_or (pt_not (pt_truthK (K := K) rfl (pe_cx c__law_says hr (by decide) pass0 (by rfl) (pa_cons (pv 11) pa_nil)) (fun _ => rfl))) (pw_or1 (pt_not (pt_truthK (K := K) rfl (pe_cx c__law_says hr (by decide) pass0 (by rfl) (pa_cons (pe_op (r := rAddU K) op_addU (pe_op (r := rAddU K) op_addU (pe_op op_mulU pe_str (pe_callTy call_intU (by rfl) T.b_int PyProof.Rows.boot_int (pa_cons (pe_ix (r := rIxU K w) (ix_U hr.units) (pv 9) pe_int (fun _ _ => rfl)) pa_nil))) (pv 11)) (pe_op op_mulU pe_str (pe_callTy call_intU (by rfl) T.b_int PyProof.Rows.boot_int (pa_cons (pe_ix (r := rIxU K w) (ix_U hr.units) (pv 9) pe_int (fun _ _ => rfl)) pa_nil)))) pa_nil)) (fun _ => rfl)))))) (pss_one (ps_ret pe_bl)) pss_nil)))
 (pss_one (ps_ret (pe_cx0 c__law_differs hr (by decide) pass0 (by rfl)))))))))))))))))), run_def (E := E) rfl (fun W0 => ?_) h⟩
    exact (vs_seq (vs_asg (vt_call (va_cons (vt_var 0) va_nil)) (vg_name 1))
 (vs_seq (vs_asg (vt_call (va_cons (vt_var 1) va_nil)) (vg_name 2))
 (vs_seq (vs_asgN (i := 3) (vn_lst va_nil))
 (vs_seq (vs_asg vt_int (vg_name 4))
 (vs_seq (vs_for (vi_rg1 (b := false) (va_cons (vt_op ro_add (vt_cbS (b1 := false) rcs_len (va_cons (vt_look 1) va_nil)) vt_int) va_nil)) (vg_name 5) (vs_seq (vs_if (vb_test (b := false) (vt_opS (b1 := false) (b2 := false) ros_in (vt_ixv (i := 2) (b2 := false) (vt_look 4)) (vt_look 3))) vs_break vs_next)
 (vs_seq (vs_append (i := 3) (vt_ixv (i := 2) (b2 := false) (vt_look 4)))
 (vs_asg (vt_op ro_ix (vt_op ro_ix (vt_ixv (i := 1) (b2 := false) (vt_look 4)) vt_int) vt_int) (vg_name 4)))))
 (vs_seq (vs_asg (vt_idxD (b1 := false) (b2 := false) (vt_look 3) (vt_ixv (i := 2) (b2 := false) (vt_look 4))) (vg_name 6))
 (vs_seq (vs_asg (vt_op ro_add (vt_op ro_mul vt_str (vt_var 6)) (vt_op ro_mul vt_str (vt_var 6))) (vg_name 7))
 (vs_seq (vs_if (vb_tru (b := false) (vt_call (va_cons (vt_look 1) (va_cons (vt_look 7) va_nil)))) (vs_asg (vt_op ro_add (vt_op ro_mul vt_str (vt_cbS (b1 := false) rcs_len (va_cons (vt_look 3) va_nil))) (vt_op ro_mul vt_str (vt_var 6))) (vg_name 7)) vs_next)
 (vs_seq (vs_asg (vt_call (va_cons (vt_make (va_cons vt_str (va_cons (vt_vn (vn_lc (vi_seqU (vt_var 1)) (vg_name 12) (by decide) vb_yes (vt_vn (vn_list (vt_var 12))))) va_nil))) va_nil)) (vg_name 8))
 (vs_seq (vs_if (vb_or (vb_test (b := false) (vt_opS (b1 := false) (b2 := false) ros_ne (vt_fld T.c_Beaten T.n_Beaten_text (vt_look 8)) (vt_look 7))) (vb_or (vb_not (vb_tru (b := false) (vt_isi (n := "bool") (b1 := false) (vt_fld T.c_Beaten T.n_Beaten_taken (vt_look 8))))) (vb_not (vb_tru (b := false) (vt_isi (n := "bool") (b1 := false) (vt_fld T.c_Beaten T.n_Beaten_belongs (vt_look 8))))))) (vs_ret vt_bl) vs_next)
 (vs_seq (vs_if (vb_or (vb_test (b := false) (vt_opS (b1 := false) (b2 := false) ros_ne (vt_fld T.c_Beaten T.n_Beaten_taken (vt_look 8)) (vt_call (va_cons (vt_look 1) (va_cons (vt_look 7) va_nil))))) (vb_or (vb_test (b := false) (vt_opS (b1 := false) (b2 := false) ros_ne (vt_fld T.c_Beaten T.n_Beaten_belongs (vt_look 8)) (vt_call (va_cons (vt_look 7) va_nil)))) (vb_test (b := false) (vt_opS (b1 := false) (b2 := false) ros_eq (vt_fld T.c_Beaten T.n_Beaten_taken (vt_look 8)) (vt_fld T.c_Beaten T.n_Beaten_belongs (vt_look 8)))))) (vs_ret vt_bl) vs_next)
 (vs_seq (vs_asg (vt_call (va_cons (vt_call (va_cons (vt_var 0) (va_cons vt_int va_nil))) (va_cons (vt_vn (vn_lst (va_cons vt_int (va_cons vt_int (va_cons vt_int (va_cons vt_int va_nil)))))) va_nil))) (vg_name 9))
 (vs_seq (vs_asg (vt_vn (vn_lst (va_cons (vt_var 7) (va_cons (vt_op ro_add (vt_op ro_mul vt_str (vt_cbS (b1 := false) rcs_int (va_cons (vt_ixv (i := 9) (b2 := false) vt_int) va_nil))) (vt_op ro_mul vt_str (vt_cbS (b1 := false) rcs_int (va_cons (vt_ixv (i := 9) (b2 := false) vt_int) va_nil)))) (va_cons vt_str (va_cons (vt_op ro_mul vt_str (vt_cbS (b1 := false) rcs_int (va_cons (vt_ixv (i := 9) (b2 := false) vt_int) va_nil))) (va_cons vt_str (va_cons vt_str (va_cons vt_str (va_cons vt_str (va_cons vt_str (va_cons vt_str va_nil)))))))))))) (vg_name 10))
 (vs_seq (vs_for (vi_seqU (vt_var 10)) (vg_name 11) (vs_if (vb_or (vb_not (vb_tru (b := false) (vt_call (va_cons (vt_look 11) va_nil)))) (vb_not (vb_tru (b := false) (vt_call (va_cons (vt_op ro_add (vt_op ro_add (vt_op ro_mul vt_str (vt_cbS (b1 := false) rcs_int (va_cons (vt_ixv (i := 9) (b2 := false) vt_int) va_nil))) (vt_look 11)) (vt_op ro_mul vt_str (vt_cbS (b1 := false) rcs_int (va_cons (vt_ixv (i := 9) (b2 := false) vt_int) va_nil)))) va_nil))))) (vs_ret vt_bl) vs_next))
 (vs_ret (vt_call va_nil)))))))))))))))))
end
/-- the law's promise: True, whatever the script -/
def spTrue (K : PySem.W.Frag) : Sp := fun vs H Q _ => ∃ (a : Addr) (xs : List Int), vs = [.ref a] ∧ xs.length ≤ 63 ∧ SqL K H a (xs.map V.int) ∧ ∀ H', Q (.bl true) H'
theorem fnOk_true {P : Program} {w : World} {K : PySem.W.Frag} {mg : Str → Option Value} {base : Heap} {CX : CXT} {k : Nat} {f : Addr} {fd : FuncData} {ps : List Str} {M : Ad → List D → Option Res} (hM : ∀ A (xs : List Int), M A [.scr (iD xs)] = some (.val (.bl true))) (A : Ad)
    (F : FnOk P w K mg base CX k f fd ps (spP (kw K w A.cls) (M A))) : FnOk P w K mg base CX k f fd ps (spTrue K) := by
  have key : ∀ vs H Q E, spTrue K vs H Q E → spP (kw K w A.cls) (M A) vs H Q E := by
    rintro vs H Q E ⟨a, xs, rfl, hl, hS, hq⟩
    refine ⟨H, [.scr (iD xs)], .val (.bl true), Same.refl _, .cons (.scr hS (DenL.of_ints xs)) .nil, hM A xs, fun H' F' v _ _ _ _ hd => ?_⟩
    cases hd
    exact hq H'
  exact F.imp key
theorem all_mk {l : PySem.W.OpenLaw} {w : World} {K : PySem.W.Frag} {h : Heap} {mg : Str → Option Value} {fa : Addr} (X : K.In h) (G : h.Ns mainGlobals mg) (hfa : mg "law" = some (.ref fa))
    {C0 : Addr}
    {fi0 : Addr} {odi0 ani0 : Option Addr} {sli0 : Array (Option Value)} {oci0 kVi0 dci0 pmi0 cdi0 cti0 : Value}
    {fh0 : Addr} {odh0 anh0 : Option Addr} {slh0 : Array (Option Value)} {och0 kVh0 dch0 pmh0 cdh0 cth0 : Value}
    {C1 : Addr}
    {fi1 : Addr} {odi1 ani1 : Option Addr} {sli1 : Array (Option Value)} {oci1 kVi1 dci1 pmi1 cdi1 cti1 : Value}
    {X0 : Addr} {nmX0 qX0 : Str} {NX0 : Addr} {bsX0 bmX0 : List Value} {snX0 : List Str} {subX0 : List Value} {abX0 : Bool} {colX0 : Option Bool} {ddX0 : Option Addr} {m0X0 m1X0 m2X0 m3X0 m5X0 : Option Value}
    {fx0 : Addr} {odx0 anx0 : Option Addr} {slx0 : Array (Option Value)} {ocx0 kVx0 dcx0 pmx0 cdx0 ctx0 : Value}
    {B0 : Addr}
    {fd0 : Addr} {odd0 and0 : Option Addr} {sld0 : Array (Option Value)} {ocd0 kVd0 dcd0 pmd0 cdd0 ctd0 : Value}
    {fd1 : Addr} {odd1 and1 : Option Addr} {sld1 : Array (Option Value)} {ocd1 kVd1 dcd1 pmd1 cdd1 ctd1 : Value}
    {fd2 : Addr} {odd2 and2 : Option Addr} {sld2 : Array (Option Value)} {ocd2 kVd2 dcd2 pmd2 cdd2 ctd2 : Value}
    {fd3 : Addr} {odd3 and3 : Option Addr} {sld3 : Array (Option Value)} {ocd3 kVd3 dcd3 pmd3 cdd3 ctd3 : Value}
    {fd4 : Addr} {odd4 and4 : Option Addr} {sld4 : Array (Option Value)} {ocd4 kVd4 dcd4 pmd4 cdd4 ctd4 : Value}
    {fd5 : Addr} {odd5 and5 : Option Addr} {sld5 : Array (Option Value)} {ocd5 kVd5 dcd5 pmd5 cdd5 ctd5 : Value}
    {fd6 : Addr} {odd6 and6 : Option Addr} {sld6 : Array (Option Value)} {ocd6 kVd6 dcd6 pmd6 cdd6 ctd6 : Value}
    {fd7 : Addr} {odd7 and7 : Option Addr} {sld7 : Array (Option Value)} {ocd7 kVd7 dcd7 pmd7 cdd7 ctd7 : Value}
    {fd8 : Addr} {odd8 and8 : Option Addr} {sld8 : Array (Option Value)} {ocd8 kVd8 dcd8 pmd8 cdd8 ctd8 : Value}
    {fd9 : Addr} {odd9 and9 : Option Addr} {sld9 : Array (Option Value)} {ocd9 kVd9 dcd9 pmd9 cdd9 ctd9 : Value}
    {fd10 : Addr} {odd10 and10 : Option Addr} {sld10 : Array (Option Value)} {ocd10 kVd10 dcd10 pmd10 cdd10 ctd10 : Value}
    {fd11 : Addr} {odd11 and11 : Option Addr} {sld11 : Array (Option Value)} {ocd11 kVd11 dcd11 pmd11 cdd11 ctd11 : Value}
    {fd12 : Addr} {odd12 and12 : Option Addr} {sld12 : Array (Option Value)} {ocd12 kVd12 dcd12 pmd12 cdd12 ctd12 : Value}
    {fd13 : Addr} {odd13 and13 : Option Addr} {sld13 : Array (Option Value)} {ocd13 kVd13 dcd13 pmd13 cdd13 ctd13 : Value}
    {fd14 : Addr} {odd14 and14 : Option Addr} {sld14 : Array (Option Value)} {ocd14 kVd14 dcd14 pmd14 cdd14 ctd14 : Value}
    {fd15 : Addr} {odd15 and15 : Option Addr} {sld15 : Array (Option Value)} {ocd15 kVd15 dcd15 pmd15 cdd15 ctd15 : Value}
    {fd16 : Addr} {odd16 and16 : Option Addr} {sld16 : Array (Option Value)} {ocd16 kVd16 dcd16 pmd16 cdd16 ctd16 : Value}
    {fd17 : Addr} {odd17 and17 : Option Addr} {sld17 : Array (Option Value)} {ocd17 kVd17 dcd17 pmd17 cdd17 ctd17 : Value}
    {fd18 : Addr} {odd18 and18 : Option Addr} {sld18 : Array (Option Value)} {ocd18 kVd18 dcd18 pmd18 cdd18 ctd18 : Value}
    {fd19 : Addr} {odd19 and19 : Option Addr} {sld19 : Array (Option Value)} {ocd19 kVd19 dcd19 pmd19 cdd19 ctd19 : Value}
    {fd20 : Addr} {odd20 and20 : Option Addr} {sld20 : Array (Option Value)} {ocd20 kVd20 dcd20 pmd20 cdd20 ctd20 : Value}
    {fd21 : Addr} {odd21 and21 : Option Addr} {sld21 : Array (Option Value)} {ocd21 kVd21 dcd21 pmd21 cdd21 ctd21 : Value}
    {fd22 : Addr} {odd22 and22 : Option Addr} {sld22 : Array (Option Value)} {ocd22 kVd22 dcd22 pmd22 cdd22 ctd22 : Value}
    {tk_AB : Nat}
    {tk_LETTERS : Nat}
    (aC0 : PySem.W.nsIn K mainGlobals "Automaton" = some (some (.ref C0)))
    (ai0 : PySem.W.findIn K (.ref C0) "__init__" = some (some (.ref fi0))) (ii0 : PySem.W.isFn K (.ref fi0) = true)
    (li0 : K.lookup fi0 = some ⟨oci0, odi0, .func (PySem.W.fnOf "__init__" "Automaton.__init__" (defArgs s_Automaton_init) (defBody s_Automaton_init) (defScope s_Automaton_init) .none kVi0 dci0 pmi0 ani0 cdi0 cti0), sli0⟩) (ci0 : PySem.W.codeIn K cdi0 "Automaton.__init__" = true) (ki0 : PySem.W.keepIn K (.ref fi0) = true)
    (pgC0 : PySem.W.plainGet K C0 Str.empty = true) (hdC0 : PySem.W.hasDictIn K C0 = true) (poC0 : PySem.W.plainOver K C0 = true) (saC0 : PySem.W.findIn K (.ref C0) "__setattr__" = some (some (.builtin "object.__setattr__"))) (mkC0 : PySem.W.makesIn K C0 = true) (kcC0 : PySem.W.keepIn K (.ref C0) = true)
    (nC0_alphabet : PySem.W.findIn K (.ref C0) "alphabet" = some none)
    (nC0_states : PySem.W.findIn K (.ref C0) "states" = some none)
    (ah0 : PySem.W.findIn K (.ref C0) "__contains__" = some (some (.ref fh0))) (ih0 : PySem.W.isFn K (.ref fh0) = true)
    (lh0 : K.lookup fh0 = some ⟨och0, odh0, .func (PySem.W.fnOf "__contains__" "Automaton.__contains__" (defArgs s_Automaton_contains) (defBody s_Automaton_contains) (defScope s_Automaton_contains) .none kVh0 dch0 pmh0 anh0 cdh0 cth0), slh0⟩) (ch0 : PySem.W.codeIn K cdh0 "Automaton.__contains__" = true) (kh0 : PySem.W.keepIn K (.ref fh0) = true)
    (aC1 : PySem.W.nsIn K mainGlobals "Beaten" = some (some (.ref C1)))
    (ai1 : PySem.W.findIn K (.ref C1) "__init__" = some (some (.ref fi1))) (ii1 : PySem.W.isFn K (.ref fi1) = true)
    (li1 : K.lookup fi1 = some ⟨oci1, odi1, .func (PySem.W.fnOf "__init__" "Beaten.__init__" (defArgs s_Beaten_init) (defBody s_Beaten_init) (defScope s_Beaten_init) .none kVi1 dci1 pmi1 ani1 cdi1 cti1), sli1⟩) (ci1 : PySem.W.codeIn K cdi1 "Beaten.__init__" = true) (ki1 : PySem.W.keepIn K (.ref fi1) = true)
    (pgC1 : PySem.W.plainGet K C1 Str.empty = true) (hdC1 : PySem.W.hasDictIn K C1 = true) (poC1 : PySem.W.plainOver K C1 = true) (saC1 : PySem.W.findIn K (.ref C1) "__setattr__" = some (some (.builtin "object.__setattr__"))) (mkC1 : PySem.W.makesIn K C1 = true) (kcC1 : PySem.W.keepIn K (.ref C1) = true)
    (nC1_text : PySem.W.findIn K (.ref C1) "text" = some none)
    (nC1_taken : PySem.W.findIn K (.ref C1) "taken" = some none)
    (nC1_belongs : PySem.W.findIn K (.ref C1) "belongs" = some none)
    (aX0 : PySem.W.nsIn K mainGlobals "AlphabetsDiffer" = some (some (.ref X0)))
    (LX0 : K.lookup X0 = some (excClassObj nmX0 qX0 X0 NX0 bsX0 bmX0 true snX0 subX0 abX0 colX0 ddX0 m0X0 m1X0 m2X0 m3X0 m5X0 "ValueError.__new__")) (rvX0 : PySem.HandSPX.refsVE bmX0 = true)
    (ax0 : PySem.W.findIn K (.ref X0) "__init__" = some (some (.ref fx0))) (tx0 : PySem.W.typeIn K (.ref fx0) = some (.type "function"))
    (lx0 : K.lookup fx0 = some ⟨ocx0, odx0, .func (PySem.W.fnOf "__init__" "AlphabetsDiffer.__init__" (defArgs s_x_AlphabetsDiffer) (defBody s_x_AlphabetsDiffer) (defScope s_x_AlphabetsDiffer) .none kVx0 dcx0 pmx0 anx0 cdx0 ctx0), slx0⟩) (cx0 : PySem.W.codeIn K cdx0 "AlphabetsDiffer.__init__" = true) (kx0 : PySem.W.keepIn K (.ref fx0) = true)
    (saX0 : PySem.W.findIn K (.ref X0) "__setattr__" = some (some (.builtin "object.__setattr__"))) (gaX0 : PySem.W.findIn K (.ref X0) "__getattribute__" = some (some (.builtin "BaseException.__getattribute__"))) (ggX0 : PySem.W.findIn K (.ref X0) "__getattr__" = some none)
    (kCX0 : PySem.W.keepIn K (.ref X0) = true) (eCX0 : PySem.W.subIn K (.ref X0) (.type "BaseException") = some true) (tCX0 : PySem.W.typeIn K (.ref X0) = some (.type "type")) (hCX0 : PySem.W.hasDictIn K X0 = true) (iCX0 : PySem.W.isClsIn K X0 = true) (sCX0 : PySem.W.subIn K (.ref X0) (.ref X0) = some true)
    (nX0_one : PySem.W.findIn K (.ref X0) "one" = some none)
    (nX0_two : PySem.W.findIn K (.ref X0) "two" = some none)
    (aB0 : PySem.W.nsIn K mainGlobals "LeashError" = some (some (.ref B0))) (eCB0 : PySem.W.subIn K (.ref B0) (.type "BaseException") = some true) (iCB0 : PySem.W.isClsIn K B0 = true) (tCB0 : PySem.W.typeIn K (.ref B0) = some (.type "type"))
    (atX0 : PySem.W.findIn K (.ref X0) "__class__" = some (some (.builtin "object.__class__"))) (gtX0 : PySem.W.specialIn K (.builtin "object.__class__") "__get__" = some (some (.builtin "getset_descriptor.__get__"))) (tkX0 : PySem.W.takesIn K (.builtin "object.__class__") = some true) (mrX0 : PySem.W.mroIn K X0 (.type "object") = some true)
    (uAlphabetsDiffer_qLeashError : PySem.W.subIn K (.ref X0) (.ref B0) = some true)
    (neAlphabetsDiffer_qLeashError : X0 ≠ B0)
    (ad0 : PySem.W.nsIn K mainGlobals "is_whole" = some (some (.ref fd0)))
    (ld0 : K.lookup fd0 = some ⟨ocd0, odd0, .func (PySem.W.fnOf "is_whole" "is_whole" (defArgs s_is_whole) (defBody s_is_whole) (defScope s_is_whole) .none kVd0 dcd0 pmd0 and0 cdd0 ctd0), sld0⟩) (cd0 : PySem.W.codeIn K cdd0 "is_whole" = true) (kd0 : PySem.W.keepIn K (.ref fd0) = true)
    (ad1 : PySem.W.nsIn K mainGlobals "is_alphabet" = some (some (.ref fd1)))
    (ld1 : K.lookup fd1 = some ⟨ocd1, odd1, .func (PySem.W.fnOf "is_alphabet" "is_alphabet" (defArgs s_is_alphabet) (defBody s_is_alphabet) (defScope s_is_alphabet) .none kVd1 dcd1 pmd1 and1 cdd1 ctd1), sld1⟩) (cd1 : PySem.W.codeIn K cdd1 "is_alphabet" = true) (kd1 : PySem.W.keepIn K (.ref fd1) = true)
    (ad2 : PySem.W.nsIn K mainGlobals "check_alphabet" = some (some (.ref fd2)))
    (ld2 : K.lookup fd2 = some ⟨ocd2, odd2, .func (PySem.W.fnOf "check_alphabet" "check_alphabet" (defArgs s_check_alphabet) (defBody s_check_alphabet) (defScope s_check_alphabet) .none kVd2 dcd2 pmd2 and2 cdd2 ctd2), sld2⟩) (cd2 : PySem.W.codeIn K cdd2 "check_alphabet" = true) (kd2 : PySem.W.keepIn K (.ref fd2) = true)
    (ad3 : PySem.W.nsIn K mainGlobals "first_stranger" = some (some (.ref fd3)))
    (ld3 : K.lookup fd3 = some ⟨ocd3, odd3, .func (PySem.W.fnOf "first_stranger" "first_stranger" (defArgs s_first_stranger) (defBody s_first_stranger) (defScope s_first_stranger) .none kVd3 dcd3 pmd3 and3 cdd3 ctd3), sld3⟩) (cd3 : PySem.W.codeIn K cdd3 "first_stranger" = true) (kd3 : PySem.W.keepIn K (.ref fd3) = true)
    (ad4 : PySem.W.nsIn K mainGlobals "reached_states" = some (some (.ref fd4)))
    (ld4 : K.lookup fd4 = some ⟨ocd4, odd4, .func (PySem.W.fnOf "reached_states" "reached_states" (defArgs s_reached_states) (defBody s_reached_states) (defScope s_reached_states) .none kVd4 dcd4 pmd4 and4 cdd4 ctd4), sld4⟩) (cd4 : PySem.W.codeIn K cdd4 "reached_states" = true) (kd4 : PySem.W.keepIn K (.ref fd4) = true)
    (ad5 : PySem.W.nsIn K mainGlobals "classes_of" = some (some (.ref fd5)))
    (ld5 : K.lookup fd5 = some ⟨ocd5, odd5, .func (PySem.W.fnOf "classes_of" "classes_of" (defArgs s_classes_of) (defBody s_classes_of) (defScope s_classes_of) .none kVd5 dcd5 pmd5 and5 cdd5 ctd5), sld5⟩) (cd5 : PySem.W.codeIn K cdd5 "classes_of" = true) (kd5 : PySem.W.keepIn K (.ref fd5) = true)
    (ad6 : PySem.W.nsIn K mainGlobals "least_form" = some (some (.ref fd6)))
    (ld6 : K.lookup fd6 = some ⟨ocd6, odd6, .func (PySem.W.fnOf "least_form" "least_form" (defArgs s_least_form) (defBody s_least_form) (defScope s_least_form) .none kVd6 dcd6 pmd6 and6 cdd6 ctd6), sld6⟩) (cd6 : PySem.W.codeIn K cdd6 "least_form" = true) (kd6 : PySem.W.keepIn K (.ref fd6) = true)
    (ad7 : PySem.W.nsIn K mainGlobals "is_state" = some (some (.ref fd7)))
    (ld7 : K.lookup fd7 = some ⟨ocd7, odd7, .func (PySem.W.fnOf "is_state" "is_state" (defArgs s_is_state) (defBody s_is_state) (defScope s_is_state) .none kVd7 dcd7 pmd7 and7 cdd7 ctd7), sld7⟩) (cd7 : PySem.W.codeIn K cdd7 "is_state" = true) (kd7 : PySem.W.keepIn K (.ref fd7) = true)
    (ad8 : PySem.W.nsIn K mainGlobals "state_of" = some (some (.ref fd8)))
    (ld8 : K.lookup fd8 = some ⟨ocd8, odd8, .func (PySem.W.fnOf "state_of" "state_of" (defArgs s_state_of) (defBody s_state_of) (defScope s_state_of) .none kVd8 dcd8 pmd8 and8 cdd8 ctd8), sld8⟩) (cd8 : PySem.W.codeIn K cdd8 "state_of" = true) (kd8 : PySem.W.keepIn K (.ref fd8) = true)
    (ad9 : PySem.W.nsIn K mainGlobals "check_alphabet_is" = some (some (.ref fd9)))
    (ld9 : K.lookup fd9 = some ⟨ocd9, odd9, .func (PySem.W.fnOf "check_alphabet_is" "check_alphabet_is" (defArgs s_check_alphabet_is) (defBody s_check_alphabet_is) (defScope s_check_alphabet_is) .none kVd9 dcd9 pmd9 and9 cdd9 ctd9), sld9⟩) (cd9 : PySem.W.codeIn K cdd9 "check_alphabet_is" = true) (kd9 : PySem.W.keepIn K (.ref fd9) = true)
    (ad10 : PySem.W.nsIn K mainGlobals "in_same_counts" = some (some (.ref fd10)))
    (ld10 : K.lookup fd10 = some ⟨ocd10, odd10, .func (PySem.W.fnOf "in_same_counts" "in_same_counts" (defArgs s_in_same_counts) (defBody s_in_same_counts) (defScope s_in_same_counts) .none kVd10 dcd10 pmd10 and10 cdd10 ctd10), sld10⟩) (cd10 : PySem.W.codeIn K cdd10 "in_same_counts" = true) (kd10 : PySem.W.keepIn K (.ref fd10) = true)
    (ad11 : PySem.W.nsIn K mainGlobals "first_twins" = some (some (.ref fd11)))
    (ld11 : K.lookup fd11 = some ⟨ocd11, odd11, .func (PySem.W.fnOf "first_twins" "first_twins" (defArgs s_first_twins) (defBody s_first_twins) (defScope s_first_twins) .none kVd11 dcd11 pmd11 and11 cdd11 ctd11), sld11⟩) (cd11 : PySem.W.codeIn K cdd11 "first_twins" = true) (kd11 : PySem.W.keepIn K (.ref fd11) = true)
    (ad12 : PySem.W.nsIn K mainGlobals "beat_same_counts" = some (some (.ref fd12)))
    (ld12 : K.lookup fd12 = some ⟨ocd12, odd12, .func (PySem.W.fnOf "beat_same_counts" "beat_same_counts" (defArgs s_beat_same_counts) (defBody s_beat_same_counts) (defScope s_beat_same_counts) .none kVd12 dcd12 pmd12 and12 cdd12 ctd12), sld12⟩) (cd12 : PySem.W.codeIn K cdd12 "beat_same_counts" = true) (kd12 : PySem.W.keepIn K (.ref fd12) = true)
    (ad13 : PySem.W.nsIn K mainGlobals "_law_cell" = some (some (.ref fd13)))
    (ld13 : K.lookup fd13 = some ⟨ocd13, odd13, .func (PySem.W.fnOf "_law_cell" "_law_cell" (defArgs s__law_cell) (defBody s__law_cell) (defScope s__law_cell) .none kVd13 dcd13 pmd13 and13 cdd13 ctd13), sld13⟩) (cd13 : PySem.W.codeIn K cdd13 "_law_cell" = true) (kd13 : PySem.W.keepIn K (.ref fd13) = true)
    (ad14 : PySem.W.nsIn K mainGlobals "_law_digits" = some (some (.ref fd14)))
    (ld14 : K.lookup fd14 = some ⟨ocd14, odd14, .func (PySem.W.fnOf "_law_digits" "_law_digits" (defArgs s__law_digits) (defBody s__law_digits) (defScope s__law_digits) .none kVd14 dcd14 pmd14 and14 cdd14 ctd14), sld14⟩) (cd14 : PySem.W.codeIn K cdd14 "_law_digits" = true) (kd14 : PySem.W.keepIn K (.ref fd14) = true)
    (ad15 : PySem.W.nsIn K mainGlobals "_law_counting" = some (some (.ref fd15)))
    (ld15 : K.lookup fd15 = some ⟨ocd15, odd15, .func (PySem.W.fnOf "_law_counting" "_law_counting" (defArgs s__law_counting) (defBody s__law_counting) (defScope s__law_counting) .none kVd15 dcd15 pmd15 and15 cdd15 ctd15), sld15⟩) (cd15 : PySem.W.codeIn K cdd15 "_law_counting" = true) (kd15 : PySem.W.keepIn K (.ref fd15) = true)
    (ad16 : PySem.W.nsIn K mainGlobals "_law_states" = some (some (.ref fd16)))
    (ld16 : K.lookup fd16 = some ⟨ocd16, odd16, .func (PySem.W.fnOf "_law_states" "_law_states" (defArgs s__law_states) (defBody s__law_states) (defScope s__law_states) .none kVd16 dcd16 pmd16 and16 cdd16 ctd16), sld16⟩) (cd16 : PySem.W.codeIn K cdd16 "_law_states" = true) (kd16 : PySem.W.keepIn K (.ref fd16) = true)
    (ad17 : PySem.W.nsIn K mainGlobals "_law_takes" = some (some (.ref fd17)))
    (ld17 : K.lookup fd17 = some ⟨ocd17, odd17, .func (PySem.W.fnOf "_law_takes" "_law_takes" (defArgs s__law_takes) (defBody s__law_takes) (defScope s__law_takes) .none kVd17 dcd17 pmd17 and17 cdd17 ctd17), sld17⟩) (cd17 : PySem.W.codeIn K cdd17 "_law_takes" = true) (kd17 : PySem.W.keepIn K (.ref fd17) = true)
    (ad18 : PySem.W.nsIn K mainGlobals "_law_classes" = some (some (.ref fd18)))
    (ld18 : K.lookup fd18 = some ⟨ocd18, odd18, .func (PySem.W.fnOf "_law_classes" "_law_classes" (defArgs s__law_classes) (defBody s__law_classes) (defScope s__law_classes) .none kVd18 dcd18 pmd18 and18 cdd18 ctd18), sld18⟩) (cd18 : PySem.W.codeIn K cdd18 "_law_classes" = true) (kd18 : PySem.W.keepIn K (.ref fd18) = true)
    (ad19 : PySem.W.nsIn K mainGlobals "_law_belongs" = some (some (.ref fd19)))
    (ld19 : K.lookup fd19 = some ⟨ocd19, odd19, .func (PySem.W.fnOf "_law_belongs" "_law_belongs" (defArgs s__law_belongs) (defBody s__law_belongs) (defScope s__law_belongs) .none kVd19 dcd19 pmd19 and19 cdd19 ctd19), sld19⟩) (cd19 : PySem.W.codeIn K cdd19 "_law_belongs" = true) (kd19 : PySem.W.keepIn K (.ref fd19) = true)
    (ad20 : PySem.W.nsIn K mainGlobals "_law_says" = some (some (.ref fd20)))
    (ld20 : K.lookup fd20 = some ⟨ocd20, odd20, .func (PySem.W.fnOf "_law_says" "_law_says" (defArgs s__law_says) (defBody s__law_says) (defScope s__law_says) .none kVd20 dcd20 pmd20 and20 cdd20 ctd20), sld20⟩) (cd20 : PySem.W.codeIn K cdd20 "_law_says" = true) (kd20 : PySem.W.keepIn K (.ref fd20) = true)
    (ad21 : PySem.W.nsIn K mainGlobals "_law_differs" = some (some (.ref fd21)))
    (ld21 : K.lookup fd21 = some ⟨ocd21, odd21, .func (PySem.W.fnOf "_law_differs" "_law_differs" (defArgs s__law_differs) (defBody s__law_differs) (defScope s__law_differs) .none kVd21 dcd21 pmd21 and21 cdd21 ctd21), sld21⟩) (cd21 : PySem.W.codeIn K cdd21 "_law_differs" = true) (kd21 : PySem.W.keepIn K (.ref fd21) = true)
    (ad22 : PySem.W.nsIn K mainGlobals "law" = some (some (.ref fd22)))
    (ld22 : K.lookup fd22 = some ⟨ocd22, odd22, .func (PySem.W.fnOf "law" "law" (defArgs s_law) (defBody s_law) (defScope s_law) .none kVd22 dcd22 pmd22 and22 cdd22 ctd22), sld22⟩) (cd22 : PySem.W.codeIn K cdd22 "law" = true) (kd22 : PySem.W.keepIn K (.ref fd22) = true)
    (z_bool : PySem.W.nsIn K mainGlobals "bool" = some none)
    (z_enumerate : PySem.W.nsIn K mainGlobals "enumerate" = some none)
    (z_int : PySem.W.nsIn K mainGlobals "int" = some none)
    (z_isinstance : PySem.W.nsIn K mainGlobals "isinstance" = some none)
    (z_len : PySem.W.nsIn K mainGlobals "len" = some none)
    (z_list : PySem.W.nsIn K mainGlobals "list" = some none)
    (z_range : PySem.W.nsIn K mainGlobals "range" = some none)
    (z_tuple : PySem.W.nsIn K mainGlobals "tuple" = some none)
    (z_AB : PySem.W.nsIn K mainGlobals "AB" = some (some (Value.str "ab" tk_AB)))
    (z_LETTERS : PySem.W.nsIn K mainGlobals "LETTERS" = some (some (Value.str "abcdefghijklmnopqrstuvwxyz" tk_LETTERS))) :
    ∃ fd : FuncData, (∀ (s : Shared) (v : Value), BindsTo s fd ⟨[v], []⟩ [("script", v)]) ∧ ∀ base : Heap, K.In base → base.Ns mainGlobals mg → FnOk l.prog w K mg base CX0 6 fa fd ["script"] (spTrue K) := by
  have e := hfa.symm.trans (PySem.W.mg_of X G ad22)
  cases e
  have T : Txt w K mg (⟨C0, C1, X0, B0⟩ : Ad) := ⟨PySem.W.mg_none_of X G z_bool, PySem.W.mg_none_of X G z_enumerate, PySem.W.mg_none_of X G z_int, PySem.W.mg_none_of X G z_isinstance, PySem.W.mg_none_of X G z_len, PySem.W.mg_none_of X G z_list, PySem.W.mg_none_of X G z_range, PySem.W.mg_none_of X G z_tuple, ⟨_, PySem.W.mg_of X G z_AB, ⟨_, rfl⟩⟩, ⟨_, PySem.W.mg_of X G z_LETTERS, ⟨_, rfl⟩⟩, ⟨pgC0, hdC0, poC0, saC0⟩, nC0_alphabet, nC0_states, ⟨pgC1, hdC1, poC1, saC1⟩, nC1_text, nC1_taken, nC1_belongs, PySem.W.mg_of X G aX0, exm_same (K := kw K w fun _ => 0) eCX0 iCX0 tCX0 sCX0, ⟨⟨gaX0, ggX0, eCX0, hCX0⟩, iCX0, atX0, gtX0, tkX0, mrX0⟩, ⟨gaX0, ggX0, eCX0, hCX0⟩, nX0_one, nX0_two, PySem.W.mg_of X G aB0, kit_sub (K := kw K w fun _ => 0) neAlphabetsDiffer_qLeashError iCB0 tCB0 uAlphabetsDiffer_qLeashError, exm_sub (K := kw K w fun _ => 0) eCX0 iCX0 tCX0 sCX0⟩
  refine ⟨PySem.W.fnOf "law" "law" (defArgs s_law) (defBody s_law) (defScope s_law) .none kVd22 dcd22 pmd22 and22 cdd22 ctd22, fun s v => .of_eq rfl, fun base _ _ => ?_⟩
  have Fx0 := fun_mk (st := s_x_AlphabetsDiffer) lx0 cx0 kx0
  have x_AlphabetsDiffer := ok_x_AlphabetsDiffer (P := l.prog) (w := w) (base := base) T ⟨⟨_, _, _, _, _, _, _, _, _, _, _, _, _, _, _, LX0, rvX0⟩, saX0, eCX0, tCX0, kCX0⟩ ax0 tx0 Fx0 (Fx0.binds (ps := ["self", "one", "two"]) fun _ _ _ _ _ _ us hl => match us, hl with | [_, _, _], _ => rfl)
  have Fd0 := fun_mk (st := s_is_whole) ld0 cd0 kd0
  have c_is_whole := ok_is_whole (P := l.prog) (w := w) (base := base) (A := (⟨C0, C1, X0, B0⟩ : Ad)) T  Fd0 (PySem.W.mg_of X G ad0) (Fd0.binds (ps := ["value"]) fun _ _ _ _ _ _ us hl => match us, hl with | [_], _ => rfl)
  have Fd1 := fun_mk (st := s_is_alphabet) ld1 cd1 kd1
  have c_is_alphabet := ok_is_alphabet (P := l.prog) (w := w) (base := base) (A := (⟨C0, C1, X0, B0⟩ : Ad)) T  Fd1 (PySem.W.mg_of X G ad1) (Fd1.binds (ps := ["value"]) fun _ _ _ _ _ _ us hl => match us, hl with | [_], _ => rfl)
  have Fd2 := fun_mk (st := s_check_alphabet) ld2 cd2 kd2
  have c_check_alphabet := ok_check_alphabet (P := l.prog) (w := w) (base := base) (A := (⟨C0, C1, X0, B0⟩ : Ad)) T c_is_alphabet Fd2 (PySem.W.mg_of X G ad2) (Fd2.binds (ps := ["alphabet"]) fun _ _ _ _ _ _ us hl => match us, hl with | [_], _ => rfl)
  have Fd3 := fun_mk (st := s_first_stranger) ld3 cd3 kd3
  have c_first_stranger := ok_first_stranger (P := l.prog) (w := w) (base := base) (A := (⟨C0, C1, X0, B0⟩ : Ad)) T  Fd3 (PySem.W.mg_of X G ad3) (Fd3.binds (ps := ["alphabet", "text"]) fun _ _ _ _ _ _ us hl => match us, hl with | [_, _], _ => rfl)
  have Fd4 := fun_mk (st := s_reached_states) ld4 cd4 kd4
  have c_reached_states := ok_reached_states (P := l.prog) (w := w) (base := base) (A := (⟨C0, C1, X0, B0⟩ : Ad)) T  Fd4 (PySem.W.mg_of X G ad4) (Fd4.binds (ps := ["states"]) fun _ _ _ _ _ _ us hl => match us, hl with | [_], _ => rfl)
  have Fd5 := fun_mk (st := s_classes_of) ld5 cd5 kd5
  have c_classes_of := ok_classes_of (P := l.prog) (w := w) (base := base) (A := (⟨C0, C1, X0, B0⟩ : Ad)) T  Fd5 (PySem.W.mg_of X G ad5) (Fd5.binds (ps := ["states", "order"]) fun _ _ _ _ _ _ us hl => match us, hl with | [_, _], _ => rfl)
  have Fd6 := fun_mk (st := s_least_form) ld6 cd6 kd6
  have c_least_form := ok_least_form (P := l.prog) (w := w) (base := base) (A := (⟨C0, C1, X0, B0⟩ : Ad)) T c_classes_of c_reached_states Fd6 (PySem.W.mg_of X G ad6) (Fd6.binds (ps := ["states"]) fun _ _ _ _ _ _ us hl => match us, hl with | [_], _ => rfl)
  have Fd7 := fun_mk (st := s_is_state) ld7 cd7 kd7
  have c_is_state := ok_is_state (P := l.prog) (w := w) (base := base) (A := (⟨C0, C1, X0, B0⟩ : Ad)) T c_is_whole Fd7 (PySem.W.mg_of X G ad7) (Fd7.binds (ps := ["state", "letters", "many"]) fun _ _ _ _ _ _ us hl => match us, hl with | [_, _, _], _ => rfl)
  have Fd8 := fun_mk (st := s_state_of) ld8 cd8 kd8
  have c_state_of := ok_state_of (P := l.prog) (w := w) (base := base) (A := (⟨C0, C1, X0, B0⟩ : Ad)) T  Fd8 (PySem.W.mg_of X G ad8) (Fd8.binds (ps := ["alphabet", "states", "text"]) fun _ _ _ _ _ _ us hl => match us, hl with | [_, _, _], _ => rfl)
  have Fi0 := fun_mk (st := s_Automaton_init) li0 ci0 ki0
  have c_Automaton := ok_Automaton_init (P := l.prog) (w := w) (base := base) (A := (⟨C0, C1, X0, B0⟩ : Ad)) T c_check_alphabet c_is_state c_least_form ⟨mkC0, ai0, ii0, kcC0⟩ Fi0 (PySem.W.mg_of X G aC0) (Fi0.binds (ps := ["self", "alphabet", "states"]) fun _ _ _ _ _ _ us hl => match us, hl with | [_, _, _], _ => rfl)
  have Fh0 := fun_mk (st := s_Automaton_contains) lh0 ch0 kh0
  have in_Automaton := ok_Automaton_contains (P := l.prog) (w := w) (base := base) (A := (⟨C0, C1, X0, B0⟩ : Ad)) T c_first_stranger c_state_of Fh0 ah0 ih0 (Fh0.binds (ps := ["self", "text"]) fun _ _ _ _ _ _ us hl => match us, hl with | [_, _], _ => rfl)
  have Fi1 := fun_mk (st := s_Beaten_init) li1 ci1 ki1
  have c_Beaten := ok_Beaten_init (P := l.prog) (w := w) (base := base) (A := (⟨C0, C1, X0, B0⟩ : Ad)) T  ⟨mkC1, ai1, ii1, kcC1⟩ Fi1 (PySem.W.mg_of X G aC1) (Fi1.binds (ps := ["self", "text", "taken", "belongs"]) fun _ _ _ _ _ _ us hl => match us, hl with | [_, _, _, _], _ => rfl)
  have Fd9 := fun_mk (st := s_check_alphabet_is) ld9 cd9 kd9
  have c_check_alphabet_is := ok_check_alphabet_is (P := l.prog) (w := w) (base := base) (A := (⟨C0, C1, X0, B0⟩ : Ad)) T x_AlphabetsDiffer Fd9 (PySem.W.mg_of X G ad9) (Fd9.binds (ps := ["thing", "alphabet"]) fun _ _ _ _ _ _ us hl => match us, hl with | [_, _], _ => rfl)
  have Fd10 := fun_mk (st := s_in_same_counts) ld10 cd10 kd10
  have c_in_same_counts := ok_in_same_counts (P := l.prog) (w := w) (base := base) (A := (⟨C0, C1, X0, B0⟩ : Ad)) T  Fd10 (PySem.W.mg_of X G ad10) (Fd10.binds (ps := ["text"]) fun _ _ _ _ _ _ us hl => match us, hl with | [_], _ => rfl)
  have Fd11 := fun_mk (st := s_first_twins) ld11 cd11 kd11
  have c_first_twins := ok_first_twins (P := l.prog) (w := w) (base := base) (A := (⟨C0, C1, X0, B0⟩ : Ad)) T  Fd11 (PySem.W.mg_of X G ad11) (Fd11.binds (ps := ["automaton"]) fun _ _ _ _ _ _ us hl => match us, hl with | [_], _ => rfl)
  have Fd12 := fun_mk (st := s_beat_same_counts) ld12 cd12 kd12
  have c_beat_same_counts := ok_beat_same_counts (P := l.prog) (w := w) (base := base) (A := (⟨C0, C1, X0, B0⟩ : Ad)) T c_Beaten c_check_alphabet_is c_first_twins in_Automaton Fd12 (PySem.W.mg_of X G ad12) (Fd12.binds (ps := ["automaton"]) fun _ _ _ _ _ _ us hl => match us, hl with | [_], _ => rfl)
  have Fd13 := fun_mk (st := s__law_cell) ld13 cd13 kd13
  have c__law_cell := ok__law_cell (P := l.prog) (w := w) (base := base) (A := (⟨C0, C1, X0, B0⟩ : Ad)) T  Fd13 (PySem.W.mg_of X G ad13) (Fd13.binds (ps := ["script", "k"]) fun _ _ _ _ _ _ us hl => match us, hl with | [_, _], _ => rfl)
  have Fd14 := fun_mk (st := s__law_digits) ld14 cd14 kd14
  have c__law_digits := ok__law_digits (P := l.prog) (w := w) (base := base) (A := (⟨C0, C1, X0, B0⟩ : Ad)) T  Fd14 (PySem.W.mg_of X G ad14) (Fd14.binds (ps := ["cell", "sizes"]) fun _ _ _ _ _ _ us hl => match us, hl with | [_, _], _ => rfl)
  have Fd15 := fun_mk (st := s__law_counting) ld15 cd15 kd15
  have c__law_counting := ok__law_counting (P := l.prog) (w := w) (base := base) (A := (⟨C0, C1, X0, B0⟩ : Ad)) T  Fd15 (PySem.W.mg_of X G ad15) (Fd15.binds (ps := ["many"]) fun _ _ _ _ _ _ us hl => match us, hl with | [_], _ => rfl)
  have Fd16 := fun_mk (st := s__law_states) ld16 cd16 kd16
  have c__law_states := ok__law_states (P := l.prog) (w := w) (base := base) (A := (⟨C0, C1, X0, B0⟩ : Ad)) T c__law_cell c__law_counting c__law_digits Fd16 (PySem.W.mg_of X G ad16) (Fd16.binds (ps := ["script"]) fun _ _ _ _ _ _ us hl => match us, hl with | [_], _ => rfl)
  have Fd17 := fun_mk (st := s__law_takes) ld17 cd17 kd17
  have c__law_takes := ok__law_takes (P := l.prog) (w := w) (base := base) (A := (⟨C0, C1, X0, B0⟩ : Ad)) T  Fd17 (PySem.W.mg_of X G ad17) (Fd17.binds (ps := ["states", "text"]) fun _ _ _ _ _ _ us hl => match us, hl with | [_, _], _ => rfl)
  have Fd18 := fun_mk (st := s__law_classes) ld18 cd18 kd18
  have c__law_classes := ok__law_classes (P := l.prog) (w := w) (base := base) (A := (⟨C0, C1, X0, B0⟩ : Ad)) T  Fd18 (PySem.W.mg_of X G ad18) (Fd18.binds (ps := ["states"]) fun _ _ _ _ _ _ us hl => match us, hl with | [_], _ => rfl)
  have Fd19 := fun_mk (st := s__law_belongs) ld19 cd19 kd19
  have c__law_belongs := ok__law_belongs (P := l.prog) (w := w) (base := base) (A := (⟨C0, C1, X0, B0⟩ : Ad)) T  Fd19 (PySem.W.mg_of X G ad19) (Fd19.binds (ps := ["text"]) fun _ _ _ _ _ _ us hl => match us, hl with | [_], _ => rfl)
  have Fd20 := fun_mk (st := s__law_says) ld20 cd20 kd20
  have c__law_says := ok__law_says (P := l.prog) (w := w) (base := base) (A := (⟨C0, C1, X0, B0⟩ : Ad)) T c__law_belongs c_in_same_counts Fd20 (PySem.W.mg_of X G ad20) (Fd20.binds (ps := ["text"]) fun _ _ _ _ _ _ us hl => match us, hl with | [_], _ => rfl)
  have Fd21 := fun_mk (st := s__law_differs) ld21 cd21 kd21
  have c__law_differs := ok__law_differs (P := l.prog) (w := w) (base := base) (A := (⟨C0, C1, X0, B0⟩ : Ad)) T c_Automaton c_beat_same_counts Fd21 (PySem.W.mg_of X G ad21) (Fd21.binds (ps := []) fun _ _ _ _ _ _ us hl => match us, hl with | [], _ => rfl)
  have Fd22 := fun_mk (st := s_law) ld22 cd22 kd22
  exact fnOk_true law_run (⟨C0, C1, X0, B0⟩ : Ad) (okF_law (P := l.prog) (w := w) (base := base) (A := (⟨C0, C1, X0, B0⟩ : Ad)) T c_Automaton c__law_belongs c__law_cell c__law_classes c__law_differs c__law_digits c__law_says c__law_states c__law_takes c_beat_same_counts Fd22)
theorem walk {l : PySem.W.OpenLaw} {q : Program} {loose : List Str} {XP : (Str → Option Value) → Heap → Prop} {YP : World → Heap → Prop} {d : DefRec} {K : Params → PySem.W.Frag} (hn : l.most = some 63) (hdf : d.params.defaults = [])
    (hY : ∀ (w : World) (h : Heap), YP w h → (K w.params).In h)
    (F : ∀ (w : World) (mg : Str → Option Value) (fa : Addr) (h : Heap), (K w.params).In h → h.Ns mainGlobals mg → mg d.name = some (.ref fa) →
      ∃ fd : FuncData, (∀ (s : Shared) (u : Value), BindsTo s fd ⟨[u], []⟩ [("script", u)]) ∧ ∀ base : Heap, (K w.params).In base → base.Ns mainGlobals mg → FnOk l.prog w (K w.params) mg base CX0 6 fa fd ["script"] (spTrue (K w.params))) :
    PySem.W.WalkO q loose XP YP l.row.toRowW d [] (fun f vs => PySem.call f vs) :=
  L2.walk_of (n := 63) (k := 6) (x := "script") (CX := fun _ => CX0) (sp := fun w => spTrue (K w.params)) hn (by decide) hdf ⟨rfl, by decide, by decide⟩ hY F (fun _ _ a ns hl _ hS => ⟨a, ns, rfl, hl, hS, fun _ => rfl⟩) fun _ _ _ _ _ z => z
end K77
open PySem PySem.W PyProof.Rows
set_option maxRecDepth 100000 in
set_option maxHeartbeats 0 in
theorem PySem.Challenge.cw_fourleashes_k77_same_counts_beaten_holds : PySem.Challenge.rw_fourleashes_k77_same_counts_beaten.Holds := by
  w_on; o_law; k_head; (case hw => w_witness2)
  k_fill
  refine K77.walk (l := PySem.Challenge.rw_fourleashes_k77_same_counts_beaten) rfl rfl (fun w h Y => PySem.W.kIn_of Y) ?F
  case F =>
    intro w mg fa h KX G hmg
    refine' K77.all_mk KX G hmg ?aC0 ?ai0 ?ii0 ?li0 ?ci0 ?ki0 ?pgC0 ?hdC0 ?poC0 ?saC0 ?mkC0 ?kcC0 ?nC0_alphabet ?nC0_states ?ah0 ?ih0 ?lh0 ?ch0 ?kh0 ?aC1 ?ai1 ?ii1 ?li1 ?ci1 ?ki1 ?pgC1 ?hdC1 ?poC1 ?saC1 ?mkC1 ?kcC1 ?nC1_text ?nC1_taken ?nC1_belongs ?aX0 ?LX0 ?rvX0 ?ax0 ?tx0 ?lx0 ?cx0 ?kx0 ?saX0 ?gaX0 ?ggX0 ?kCX0 ?eCX0 ?tCX0 ?hCX0 ?iCX0 ?sCX0 ?nX0_one ?nX0_two ?aB0 ?eCB0 ?iCB0 ?tCB0 ?atX0 ?gtX0 ?tkX0 ?mrX0 ?uAlphabetsDiffer_qLeashError ?neAlphabetsDiffer_qLeashError ?ad0 ?ld0 ?cd0 ?kd0 ?ad1 ?ld1 ?cd1 ?kd1 ?ad2 ?ld2 ?cd2 ?kd2 ?ad3 ?ld3 ?cd3 ?kd3 ?ad4 ?ld4 ?cd4 ?kd4 ?ad5 ?ld5 ?cd5 ?kd5 ?ad6 ?ld6 ?cd6 ?kd6 ?ad7 ?ld7 ?cd7 ?kd7 ?ad8 ?ld8 ?cd8 ?kd8 ?ad9 ?ld9 ?cd9 ?kd9 ?ad10 ?ld10 ?cd10 ?kd10 ?ad11 ?ld11 ?cd11 ?kd11 ?ad12 ?ld12 ?cd12 ?kd12 ?ad13 ?ld13 ?cd13 ?kd13 ?ad14 ?ld14 ?cd14 ?kd14 ?ad15 ?ld15 ?cd15 ?kd15 ?ad16 ?ld16 ?cd16 ?kd16 ?ad17 ?ld17 ?cd17 ?kd17 ?ad18 ?ld18 ?cd18 ?kd18 ?ad19 ?ld19 ?cd19 ?kd19 ?ad20 ?ld20 ?cd20 ?kd20 ?ad21 ?ld21 ?cd21 ?kd21 ?ad22 ?ld22 ?cd22 ?kd22 ?z_bool ?z_enumerate ?z_int ?z_isinstance ?z_len ?z_list ?z_range ?z_tuple ?z_AB ?z_LETTERS
    (case aC0 => first | k_is | (decide +kernel) | rfl | decide)
    (case ai0 => first | k_is | (decide +kernel) | rfl | decide)
    (case ii0 => first | k_is | (decide +kernel) | rfl | decide)
    (case li0 => first | k_is | (decide +kernel) | rfl | decide)
    (case ci0 => first | k_is | (decide +kernel) | rfl | decide)
    (case ki0 => first | k_is | (decide +kernel) | rfl | decide)
    (case pgC0 => first | k_is | (decide +kernel) | rfl | decide)
    (case hdC0 => first | k_is | (decide +kernel) | rfl | decide)
    (case poC0 => first | k_is | (decide +kernel) | rfl | decide)
    (case saC0 => first | k_is | (decide +kernel) | rfl | decide)
    (case mkC0 => first | k_is | (decide +kernel) | rfl | decide)
    (case kcC0 => first | k_is | (decide +kernel) | rfl | decide)
    (case nC0_alphabet => first | k_is | (decide +kernel) | rfl | decide)
    (case nC0_states => first | k_is | (decide +kernel) | rfl | decide)
    (case ah0 => first | k_is | (decide +kernel) | rfl | decide)
    (case ih0 => first | k_is | (decide +kernel) | rfl | decide)
    (case lh0 => first | k_is | (decide +kernel) | rfl | decide)
    (case ch0 => first | k_is | (decide +kernel) | rfl | decide)
    (case kh0 => first | k_is | (decide +kernel) | rfl | decide)
    (case aC1 => first | k_is | (decide +kernel) | rfl | decide)
    (case ai1 => first | k_is | (decide +kernel) | rfl | decide)
    (case ii1 => first | k_is | (decide +kernel) | rfl | decide)
    (case li1 => first | k_is | (decide +kernel) | rfl | decide)
    (case ci1 => first | k_is | (decide +kernel) | rfl | decide)
    (case ki1 => first | k_is | (decide +kernel) | rfl | decide)
    (case pgC1 => first | k_is | (decide +kernel) | rfl | decide)
    (case hdC1 => first | k_is | (decide +kernel) | rfl | decide)
    (case poC1 => first | k_is | (decide +kernel) | rfl | decide)
    (case saC1 => first | k_is | (decide +kernel) | rfl | decide)
    (case mkC1 => first | k_is | (decide +kernel) | rfl | decide)
    (case kcC1 => first | k_is | (decide +kernel) | rfl | decide)
    (case nC1_text => first | k_is | (decide +kernel) | rfl | decide)
    (case nC1_taken => first | k_is | (decide +kernel) | rfl | decide)
    (case nC1_belongs => first | k_is | (decide +kernel) | rfl | decide)
    (case aX0 => first | k_is | (decide +kernel) | rfl | decide)
    (case LX0 => first | k_is | (decide +kernel) | rfl | decide)
    (case rvX0 => first | k_is | (decide +kernel) | rfl | decide)
    (case ax0 => first | k_is | (decide +kernel) | rfl | decide)
    (case tx0 => first | k_is | (decide +kernel) | rfl | decide)
    (case lx0 => first | k_is | (decide +kernel) | rfl | decide)
    (case cx0 => first | k_is | (decide +kernel) | rfl | decide)
    (case kx0 => first | k_is | (decide +kernel) | rfl | decide)
    (case saX0 => first | k_is | (decide +kernel) | rfl | decide)
    (case gaX0 => first | k_is | (decide +kernel) | rfl | decide)
    (case ggX0 => first | k_is | (decide +kernel) | rfl | decide)
    (case kCX0 => first | k_is | (decide +kernel) | rfl | decide)
    (case eCX0 => first | k_is | (decide +kernel) | rfl | decide)
    (case tCX0 => first | k_is | (decide +kernel) | rfl | decide)
    (case hCX0 => first | k_is | (decide +kernel) | rfl | decide)
    (case iCX0 => first | k_is | (decide +kernel) | rfl | decide)
    (case sCX0 => first | k_is | (decide +kernel) | rfl | decide)
    (case nX0_one => first | k_is | (decide +kernel) | rfl | decide)
    (case nX0_two => first | k_is | (decide +kernel) | rfl | decide)
    (case aB0 => first | k_is | (decide +kernel) | rfl | decide)
    (case eCB0 => first | k_is | (decide +kernel) | rfl | decide)
    (case iCB0 => first | k_is | (decide +kernel) | rfl | decide)
    (case tCB0 => first | k_is | (decide +kernel) | rfl | decide)
    (case atX0 => first | k_is | (decide +kernel) | rfl | decide)
    (case gtX0 => first | k_is | (decide +kernel) | rfl | decide)
    (case tkX0 => first | k_is | (decide +kernel) | rfl | decide)
    (case mrX0 => first | k_is | (decide +kernel) | rfl | decide)
    (case uAlphabetsDiffer_qLeashError => first | k_is | (decide +kernel) | rfl | decide)
    (case neAlphabetsDiffer_qLeashError => first | k_is | (decide +kernel) | rfl | decide)
    (case ad0 => first | k_is | (decide +kernel) | rfl | decide)
    (case ld0 => first | k_is | (decide +kernel) | rfl | decide)
    (case cd0 => first | k_is | (decide +kernel) | rfl | decide)
    (case kd0 => first | k_is | (decide +kernel) | rfl | decide)
    (case ad1 => first | k_is | (decide +kernel) | rfl | decide)
    (case ld1 => first | k_is | (decide +kernel) | rfl | decide)
    (case cd1 => first | k_is | (decide +kernel) | rfl | decide)
    (case kd1 => first | k_is | (decide +kernel) | rfl | decide)
    (case ad2 => first | k_is | (decide +kernel) | rfl | decide)
    (case ld2 => first | k_is | (decide +kernel) | rfl | decide)
    (case cd2 => first | k_is | (decide +kernel) | rfl | decide)
    (case kd2 => first | k_is | (decide +kernel) | rfl | decide)
    (case ad3 => first | k_is | (decide +kernel) | rfl | decide)
    (case ld3 => first | k_is | (decide +kernel) | rfl | decide)
    (case cd3 => first | k_is | (decide +kernel) | rfl | decide)
    (case kd3 => first | k_is | (decide +kernel) | rfl | decide)
    (case ad4 => first | k_is | (decide +kernel) | rfl | decide)
    (case ld4 => first | k_is | (decide +kernel) | rfl | decide)
    (case cd4 => first | k_is | (decide +kernel) | rfl | decide)
    (case kd4 => first | k_is | (decide +kernel) | rfl | decide)
    (case ad5 => first | k_is | (decide +kernel) | rfl | decide)
    (case ld5 => first | k_is | (decide +kernel) | rfl | decide)
    (case cd5 => first | k_is | (decide +kernel) | rfl | decide)
    (case kd5 => first | k_is | (decide +kernel) | rfl | decide)
    (case ad6 => first | k_is | (decide +kernel) | rfl | decide)
    (case ld6 => first | k_is | (decide +kernel) | rfl | decide)
    (case cd6 => first | k_is | (decide +kernel) | rfl | decide)
    (case kd6 => first | k_is | (decide +kernel) | rfl | decide)
    (case ad7 => first | k_is | (decide +kernel) | rfl | decide)
    (case ld7 => first | k_is | (decide +kernel) | rfl | decide)
    (case cd7 => first | k_is | (decide +kernel) | rfl | decide)
    (case kd7 => first | k_is | (decide +kernel) | rfl | decide)
    (case ad8 => first | k_is | (decide +kernel) | rfl | decide)
    (case ld8 => first | k_is | (decide +kernel) | rfl | decide)
    (case cd8 => first | k_is | (decide +kernel) | rfl | decide)
    (case kd8 => first | k_is | (decide +kernel) | rfl | decide)
    (case ad9 => first | k_is | (decide +kernel) | rfl | decide)
    (case ld9 => first | k_is | (decide +kernel) | rfl | decide)
    (case cd9 => first | k_is | (decide +kernel) | rfl | decide)
    (case kd9 => first | k_is | (decide +kernel) | rfl | decide)
    (case ad10 => first | k_is | (decide +kernel) | rfl | decide)
    (case ld10 => first | k_is | (decide +kernel) | rfl | decide)
    (case cd10 => first | k_is | (decide +kernel) | rfl | decide)
    (case kd10 => first | k_is | (decide +kernel) | rfl | decide)
    (case ad11 => first | k_is | (decide +kernel) | rfl | decide)
    (case ld11 => first | k_is | (decide +kernel) | rfl | decide)
    (case cd11 => first | k_is | (decide +kernel) | rfl | decide)
    (case kd11 => first | k_is | (decide +kernel) | rfl | decide)
    (case ad12 => first | k_is | (decide +kernel) | rfl | decide)
    (case ld12 => first | k_is | (decide +kernel) | rfl | decide)
    (case cd12 => first | k_is | (decide +kernel) | rfl | decide)
    (case kd12 => first | k_is | (decide +kernel) | rfl | decide)
    (case ad13 => first | k_is | (decide +kernel) | rfl | decide)
    (case ld13 => first | k_is | (decide +kernel) | rfl | decide)
    (case cd13 => first | k_is | (decide +kernel) | rfl | decide)
    (case kd13 => first | k_is | (decide +kernel) | rfl | decide)
    (case ad14 => first | k_is | (decide +kernel) | rfl | decide)
    (case ld14 => first | k_is | (decide +kernel) | rfl | decide)
    (case cd14 => first | k_is | (decide +kernel) | rfl | decide)
    (case kd14 => first | k_is | (decide +kernel) | rfl | decide)
    (case ad15 => first | k_is | (decide +kernel) | rfl | decide)
    (case ld15 => first | k_is | (decide +kernel) | rfl | decide)
    (case cd15 => first | k_is | (decide +kernel) | rfl | decide)
    (case kd15 => first | k_is | (decide +kernel) | rfl | decide)
    (case ad16 => first | k_is | (decide +kernel) | rfl | decide)
    (case ld16 => first | k_is | (decide +kernel) | rfl | decide)
    (case cd16 => first | k_is | (decide +kernel) | rfl | decide)
    (case kd16 => first | k_is | (decide +kernel) | rfl | decide)
    (case ad17 => first | k_is | (decide +kernel) | rfl | decide)
    (case ld17 => first | k_is | (decide +kernel) | rfl | decide)
    (case cd17 => first | k_is | (decide +kernel) | rfl | decide)
    (case kd17 => first | k_is | (decide +kernel) | rfl | decide)
    (case ad18 => first | k_is | (decide +kernel) | rfl | decide)
    (case ld18 => first | k_is | (decide +kernel) | rfl | decide)
    (case cd18 => first | k_is | (decide +kernel) | rfl | decide)
    (case kd18 => first | k_is | (decide +kernel) | rfl | decide)
    (case ad19 => first | k_is | (decide +kernel) | rfl | decide)
    (case ld19 => first | k_is | (decide +kernel) | rfl | decide)
    (case cd19 => first | k_is | (decide +kernel) | rfl | decide)
    (case kd19 => first | k_is | (decide +kernel) | rfl | decide)
    (case ad20 => first | k_is | (decide +kernel) | rfl | decide)
    (case ld20 => first | k_is | (decide +kernel) | rfl | decide)
    (case cd20 => first | k_is | (decide +kernel) | rfl | decide)
    (case kd20 => first | k_is | (decide +kernel) | rfl | decide)
    (case ad21 => first | k_is | (decide +kernel) | rfl | decide)
    (case ld21 => first | k_is | (decide +kernel) | rfl | decide)
    (case cd21 => first | k_is | (decide +kernel) | rfl | decide)
    (case kd21 => first | k_is | (decide +kernel) | rfl | decide)
    (case ad22 => first | k_is | (decide +kernel) | rfl | decide)
    (case ld22 => first | k_is | (decide +kernel) | rfl | decide)
    (case cd22 => first | k_is | (decide +kernel) | rfl | decide)
    (case kd22 => first | k_is | (decide +kernel) | rfl | decide)
    (case z_bool => first | k_is | (decide +kernel) | rfl | decide)
    (case z_enumerate => first | k_is | (decide +kernel) | rfl | decide)
    (case z_int => first | k_is | (decide +kernel) | rfl | decide)
    (case z_isinstance => first | k_is | (decide +kernel) | rfl | decide)
    (case z_len => first | k_is | (decide +kernel) | rfl | decide)
    (case z_list => first | k_is | (decide +kernel) | rfl | decide)
    (case z_range => first | k_is | (decide +kernel) | rfl | decide)
    (case z_tuple => first | k_is | (decide +kernel) | rfl | decide)
    (case z_AB => first | k_is | (decide +kernel) | rfl | decide)
    (case z_LETTERS => first | k_is | (decide +kernel) | rfl | decide)
end
#print axioms PySem.Challenge.cw_fourleashes_k77_same_counts_beaten_holds
