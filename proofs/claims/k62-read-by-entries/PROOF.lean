import PyProof.Rows.All
import Wide.All
import OpenK.AllK
import Wide.FinOn
import HandS.ForMost
import HandS.Exc
import HandS.ExcOwn
import HandS.TryOnly
import HandS.WordsExc
import HandS.Deep
import HandS.SortKw
import HandS.IsInst
import HandS.Zip
import HandS.Walk
import HandS.Style
import HandS.Flow
import HandS.Conv
import HandS.SortOrd
import HandS.Evl
import HandS.Lambda
import HandS.Rev
import HandS.TupAny
import HandS.TupSets
import HandS.SortRule
import HandS.Defaults
import HandS.AnyAll
import HandS.RevRange
import HandS.DictComp
import HandS.Strs
import HandS.Small
import HandS.TupLe
import HandS.DictTup
import HandS.SetKeys
import KE.SortData
import KE.SortKeyHeap
import KE.KDictKeyed
import HandS.EndTab
import HandS.HeadWalk
import PyProof.ReprRoads
import KE.KExcInit
import HandS.ExcInit
import HandS.ClsMeth
import HandS.ExcField
import HandS.ExcIs
import KE.KExcIs
import HandS.HeadHook1
import HandS.HeadHook4
import HandS.Head2
import HandS.HeadEnd
import HandS.ExcValue
import PyProof.TupleOfSeq
import HandS.MakeKwOnly
import KE.GoesEnum
import KE.DataMinMax
import HandS.SetFor
import KE.DataEq
import HandS.TupMul
import HandS.Iter
import PyProof.LongRange
import KE.KTryMore
import HandS.HotCalls
import HandS.Text
import PyProof.StrBlock2
import KE.GoesComp
import KE.GoesMore
import Lean
import PySem.Challenge.RW_besideindex_k62_read_by_entries
set_option Elab.async false
set_option linter.all false
set_option maxRecDepth 100000
set_option maxHeartbeats 4000000
namespace DL
open PySem PySem.Spec PyProof.Rows L2
set_option autoImplicit true

/-! ## dicts whose keys are tuples of ints, wherever these lie -/
abbrev QRow := List Int × Addr × V
abbrev QVal := List Int × Addr × Value
def entQ (x : QVal) : DictEntry := ⟨PySem.reduceHash (Builtin.Tuple.tupleHashOf (x.1.map PySem.hashInt)), .ref x.2.1, x.2.2⟩
def cellQ (h : Heap) (a : Addr) (xs : List QVal) : Prop := ∃ o es ep, h.get? a = some o ∧ o.ExactDict ∧ o.data = .dict es ep ∧ es.toList = xs.map entQ
abbrev QT : List QRow → List QVal → Prop := Paired fun p q => p.1 = q.1 ∧ p.2.1 = q.2.1 ∧ RelV p.2.2 q.2.2
def TDp (a : Addr) (L : List QRow) (h : Heap) : Prop := L.length ≤ sizeLine ∧ (a == sysModules) = false ∧ ∃ xs : List QVal, QT L xs ∧ (xs.map (·.1)).Nodup ∧ cellQ h a xs
def TD (a : Addr) (L : List QRow) : HO := .ext (TDp a L)
def valQ (L : List QRow) (k : List Int) : Option V := (L.find? fun x => decide (x.1 = k)).map (·.2.2)
def putQ (L : List QRow) (k : List Int) (b : Addr) (v : V) : List QRow := if (valQ L k).isSome = true then L.map (fun x => if x.1 = k then (x.1, x.2.1, v) else x) else L ++ [(k, b, v)]
theorem entQ_is (P : Program) (w : World) (x : QVal) : entryOfKey (tupleKind (intKind P w)) x = entQ x := rfl
theorem qt_val {L : List QRow} {xs : List QVal} (r : QT L xs) (k : List Int) : RelO (valQ L k) ((atKey xs k).map (·.2)) := by
  unfold valQ atKey
  induction r with
  | nil => exact trivial
  | @cons p q ps qs h t ih =>
    obtain ⟨e1, e2, e3⟩ := h
    rw [List.find?_cons, List.find?_cons, ← e1]
    by_cases e : p.1 = k
    · rw [decide_eq_true e]
      exact e3
    · rw [decide_eq_false e]
      exact ih
theorem qt_put {L : List QRow} {xs : List QVal} (r : QT L xs) {k : List Int} {b : Addr} {v : V} {u : Value} (rv : RelV v u) : QT (putQ L k b v) (storedH xs k b u) := by
  have e := (qt_val r k).isSome_eq
  rw [Option.isSome_map] at e
  unfold putQ storedH
  rw [e]
  by_cases q : (atKey xs k).isSome = true
  · rw [if_pos q, if_pos q]
    clear e q
    induction r with
    | nil => exact .nil
    | @cons p q ps qs h t ih =>
      obtain ⟨e1, e2, e3⟩ := h
      rw [List.map_cons, List.map_cons]
      refine .cons ?_ ih
      unfold putAt
      rw [← e1]
      by_cases e : p.1 = k
      · rw [if_pos e, if_pos e]; exact ⟨e1 ▸ rfl, e2, rv⟩
      · rw [if_neg e, if_neg e]; exact ⟨e1, e2, e3⟩
  · rw [if_neg q, if_neg q]
    exact Paired.snoc r ⟨rfl, rfl, rv⟩
section
variable {X : Cx} {pins : List (Addr × Obj)} {σ : L2.St} {H : Hp} {s : Shared} {a b : Addr} {L : List QRow} {k : List Int} {A : Around} {E : Value → Shared → Prop}
theorem td_of (I : Inv X pins σ H s) (e : H a = some (TD a L)) (hk : ∀ p ∈ L, SqT X.K H p.2.1 (p.1.map V.int)) :
    L.length ≤ sizeLine ∧ (a == sysModules) = false ∧ ∃ xs : List QVal, QT L xs ∧ s.heap.DictOfH (tupleKind (intKind X.prog X.w)) a xs := by
  obtain ⟨⟨z, y, xs, r, nd, o, es, ep, h1, h2, h3, h4⟩, _⟩ := (show ObjOk X.prog X.w H s.heap a (.ext (TDp a L)) from I.hok a _ e)
  refine ⟨z, y, xs, r, o, es, ep, h1, h2, h3, h4, ?_, nd⟩
  clear h1 h2 h3 h4 nd z e
  rename_i e0
  clear e0
  induction r with
  | nil => exact fun x hx => nomatch hx
  | @cons p q ps qs h t ih =>
    obtain ⟨e1, e2, _⟩ := h
    intro x hx
    rcases List.mem_cons.mp hx with e | hx
    · subst e
      rw [← e1, ← e2]
      exact I.isT (hk p List.mem_cons_self)
    · exact ih (fun p hp => hk p (List.mem_cons_of_mem _ hp)) x hx
theorem inQ {Q : Value → Shared → Prop} (hu : A.units + 1 < cLine) (I : Inv X pins σ H s) (e : H a = some (TD a L)) (hk : ∀ p ∈ L, SqT X.K H p.2.1 (p.1.map V.int)) (hb : SqT X.K H b (k.map V.int)) (h : ∀ s', Inv X pins σ H s' → Q (.bool (valQ L k).isSome) s') :
    wpAny (model X.prog X.w) A (compareOp .In (.ref b) (.ref a)) Q E s := by
  obtain ⟨z, hd, xs, rel, dd⟩ := td_of I e hk
  refine wpAny_in_heap (knd := tupleKind (intKind X.prog X.w)) (k := k) (tupleKind_room_in1 hu) (I.isT hb) hd dd ?_
  have q := (qt_val rel k).isSome_eq
  rw [Option.isSome_map] at q
  rw [← q]
  exact h _ (I.tok _)
theorem notInQ {Q : Value → Shared → Prop} (hu : A.units + 1 < cLine) (I : Inv X pins σ H s) (e : H a = some (TD a L)) (hk : ∀ p ∈ L, SqT X.K H p.2.1 (p.1.map V.int)) (hb : SqT X.K H b (k.map V.int)) (h : ∀ s', Inv X pins σ H s' → Q (.bool (!(valQ L k).isSome)) s') :
    wpAny (model X.prog X.w) A (compareOp .NotIn (.ref b) (.ref a)) Q E s := by
  obtain ⟨z, hd, xs, rel, dd⟩ := td_of I e hk
  refine wpAny_notIn_heap (knd := tupleKind (intKind X.prog X.w)) (k := k) (tupleKind_room_in1 hu) (I.isT hb) hd dd ?_
  have q := (qt_val rel k).isSome_eq
  rw [Option.isSome_map] at q
  rw [← q]
  exact h _ (I.tok _)
theorem getQ {Q : Value → Shared → Prop} (hu : A.units + 1 < cLine) (I : Inv X pins σ H s) (e : H a = some (TD a L)) (hk : ∀ p ∈ L, SqT X.K H p.2.1 (p.1.map V.int)) (hb : SqT X.K H b (k.map V.int)) (h : ∀ w' s', Inv X pins σ H s' → RelV ((valQ L k).getD .non) w' → Q w' s') :
    wpAny (model X.prog X.w) A (call (.builtin "dict.get") [.ref a, .ref b]) Q E s := by
  obtain ⟨z, hd, xs, rel, dd⟩ := td_of I e hk
  refine call_meetsIn PySem.F.slot_dict_get dd.typeIs PySem.F.entry_dict_get (PySem.F.args_dict_get_2 _ _) (meetsH_dict_get (tupleKind (intKind X.prog X.w)) a b hd) ?_
  exact ⟨tupleKind_room_in1 hu, k, xs, I.isT hb, dd, h _ _ (I.tok _) ((qt_val rel k).getD rfl)⟩
theorem td_new {h' : Heap} {xs : List QVal} (z : L.length ≤ sizeLine) (hd : (a == sysModules) = false) (r : QT L xs) (nd : (xs.map (·.1)).Nodup) (c : cellQ h' a xs) : ObjOk X.prog X.w H h' a (TD a L) := by
  refine ⟨⟨z, hd, xs, r, nd, c⟩, ?_, fun h1 h2 p st => ?_⟩
  · obtain ⟨o, _, _, e, _⟩ := c
    exact ⟨o, e⟩
  · obtain ⟨z, hd, xs, r, nd, o, es, ep, e1, e2⟩ := p
    exact ⟨z, hd, xs, r, nd, o, es, ep, st o e1, e2⟩
theorem setQ {v : V} {r : Value} {Q : Unit → Shared → Prop} (hu : A.units + 1 < cLine) (I : Inv X pins σ H s) (e : H a = some (TD a L)) (hk : ∀ p ∈ L, SqT X.K H p.2.1 (p.1.map V.int)) (hb : SqT X.K H b (k.map V.int)) (rv : RelV v r) (l : L.length < sizeLine)
    (h : ∀ s', Inv X pins σ (upd H a (TD a (putQ L k b v))) s' → Q () s') : wpAny (model X.prog X.w) A (setItem (.ref a) (.ref b) r) Q E s := by
  obtain ⟨z, hd, xs, rel, dd⟩ := td_of I e hk
  have hz : xs.length ≤ sizeLine := by rw [← Paired.length rel]; exact z
  have hl : (putQ L k b v).length ≤ sizeLine := by
    unfold putQ
    split
    · rw [List.length_map]; exact z
    · rw [List.length_append]; show L.length + 1 ≤ _; omega
  refine wpAny_setItem_heap (knd := tupleKind (intKind X.prog X.w)) (k := k) (hsz := hz) (tupleKind_room_in1 hu) (I.isT hb) dd fun h' dd' hs => h _ ?_
  obtain ⟨q, es, ep, hq, h2, h3, h4, _, h5⟩ := dd'
  exact d_write I (by rw [e]; exact True.intro) hs ⟨q, hq⟩ (td_new hl hd (qt_put rel rv) h5 ⟨q, es, ep, hq, h2, h3, h4⟩)
theorem pe_dnewQ {pos : Pos} : PE X (.Dict [] [] pos) (fun _ H Q => ∀ p, H p = none → Q (.ref p) (upd H p (TD p []))) := ⟨fun pins s σ H Q I h => by
  have hd : (s.heap.objs.size == sysModules) = false := beq_eq_false_iff_ne.mpr (Nat.ne_of_gt I.big)
  refine wpAny_Dict_empty ⟨.ref s.heap.objs.size, _, I.laid (a := s.heap.objs.size) (o := TD s.heap.objs.size []) (t' := s.toks) (fun _ _ q => Heap.get?_push_of_some _ q) (Nat.le_refl _) ?_, rfl, h _ (I.hok.fresh (Nat.le_refl _))⟩
  exact td_new (Nat.zero_le _) hd .nil List.nodup_nil ⟨_, #[], _, Heap.get?_push_size _ rfl, ⟨rfl, rfl, rfl⟩, rfl, rfl⟩⟩
end
/-- no code object is such a dict -/
theorem td_code {c a : Addr} {q : Str} {L : List QRow} : LamX.CodeO c q ≠ TD a L := fun z => by
  have z2 : (fun h : Heap => ∃ (oc : Obj) (vs : Array Value) (t : Tok), h.get? c = some oc ∧ oc.data = .fields vs ∧ vs[1]? = some (.str q t)) = TDp a L := HO.ext.inj z
  obtain ⟨o, ho⟩ : ∃ o : Obj, o = { cls := .none, data := .fields #[.none, .str q 0] } := ⟨_, rfl⟩
  obtain ⟨h, eh, ea⟩ : ∃ h : Heap, h.get? c = some o ∧ h.get? a = some o := ⟨{ objs := Array.replicate (c + a + 1) o }, by
    subst ho
    refine ⟨?_, ?_⟩
    · have z1 : c < c + a + 1 := Nat.lt_succ_of_le (Nat.le_add_right c a)
      simp [Heap.get?, z1]
    · have z1 : a < c + a + 1 := Nat.lt_succ_of_le (Nat.le_add_left a c)
      simp [Heap.get?, z1]⟩
  have y : TDp a L h := by
    rw [← z2]
    exact ⟨o, _, 0, eh, by rw [ho], rfl⟩
  obtain ⟨_, _, xs, _, _, o', es, ep, e1, _, e3, _⟩ := y
  rw [ea] at e1
  cases e1
  rw [ho] at e3
  cases e3
end DL
namespace DL
open PySem PySem.Spec PyProof.Rows L2
set_option autoImplicit true

/-! ## values of data, objects of one's own -/
inductive SV where
  | d (x : PyData)
  | own (a : Addr)
/-- what is one's own: a list of data; a list, a tuple, a dict, an instance with whatever within -/
inductive MO where
  | lst (xs : List PyData)
  | seq (xs : List SV)
  | tpl (xs : List SV)
  | dct (ps : List (Key × SV))
  | dcT (a : Addr) (ps : List (List Int × PyData))
  | ins (C : Addr) (fs : List (Str × SV))
abbrev MH := Addr → Option MO
def mput (h : MH) (a : Addr) (o : MO) : MH := fun b => if b = a then some o else h b
theorem mput_same {h : MH} {a : Addr} {o : MO} : mput h a o a = some o := if_pos rfl
theorem mput_ne {h : MH} {a b : Addr} {o : MO} (n : b ≠ a) : mput h a o b = h b := if_neg n
abbrev DSt := List (Option SV)
abbrev DK := SV → MH → Prop
abbrev DTE := DSt → MH → DK → Prop
abbrev DTT := DSt → MH → (Bool → MH → Prop) → Prop
abbrev DTA := DSt → MH → (List SV → MH → Prop) → Prop
/-- a fresh list's items -/
abbrev DTF := DSt → MH → (List PyData → MH → Prop) → Prop

def Fzx (x : List Addr) (H : Hp) (h : MH) : Hp := fun a => if a ∈ x then none else if (h a).isSome then none else match H a with
  | some (.tbl _) => none
  | o => o
theorem Fz.of {x : List Addr} {H : Hp} {h : MH} {a : Addr} {o : HO} (e : H a = some o) (n : h a = none) (nx : a ∉ x) (nt : ∀ ps, o ≠ .tbl ps := by intro ps z; cases z) : Fzx x H h a = some o := by
  unfold Fzx; rw [if_neg nx, n, e]
  cases o <;> first | rfl | exact absurd rfl (nt _)
theorem Fz.to {x : List Addr} {H : Hp} {h : MH} {a : Addr} {o : HO} (e : Fzx x H h a = some o) : H a = some o ∧ h a = none ∧ a ∉ x ∧ ∀ ps, o ≠ .tbl ps := by
  unfold Fzx at e
  by_cases m : a ∈ x
  · rw [if_pos m] at e; cases e
  · rw [if_neg m] at e
    cases q : h a with
    | some m => rw [q] at e; cases e
    | none =>
      rw [q] at e
      have e' : (match H a with
        | some (.tbl _) => none
        | o => o) = some o := e
      cases r : H a with
      | none => rw [r] at e'; cases e'
      | some u =>
        rw [r] at e'
        cases u <;> first | (cases e'; exact ⟨rfl, rfl, m, fun _ z => by cases z⟩) | cases e'

abbrev Sub (H H' : Hp) : Prop := ∀ a o, H a = some o → H' a = some o
theorem rd_up {H H' : Hp} {a : Addr} {u : HO} (e : Sub H H') (r : Rd H a u) : Rd H' a u := by
  rcases r with r | ⟨o, r⟩
  · exact .inl (e _ _ r)
  · exact .inr ⟨o, e _ _ r⟩
theorem sqL_up {K : PySem.W.Frag} {H H' : Hp} {a : Addr} {xs : List V} (e : Sub H H') (r : SqL K H a xs) : SqL K H' a xs := r.imp (rd_up e) id
theorem sqT_up {K : PySem.W.Frag} {H H' : Hp} {a : Addr} {xs : List V} (e : Sub H H') (r : SqT K H a xs) : SqT K H' a xs := r.imp (rd_up e) id
theorem fz_sub {x : List Addr} {H : Hp} {h : MH} : Sub (Fzx x H h) H := fun _ _ e => (Fz.to e).1
mutual
theorem dp_up {K : PySem.W.Frag} {H H' : Hp} (e : Sub H H') : ∀ (d : PyData) (v : V), Dp K H v d → Dp K H' v d
  | .none, _, h => by cases h; exact .non
  | .bool b, _, h => by cases h; exact .bl b
  | .int i, _, h => by cases h; exact .int i
  | .str x, _, h => by cases h; exact .str x
  | .list ds, _, h => by
    cases h with
    | lst h1 h2 => exact .lst (sqL_up e h1) (dps_up e ds _ h2)
  | .tuple ds, _, h => by
    cases h with
    | tup h1 h2 => exact .tup (sqT_up e h1) (dps_up e ds _ h2)
  | .dict _, _, h => by cases h
theorem dps_up {K : PySem.W.Frag} {H H' : Hp} (e : Sub H H') : ∀ (ds : List PyData) (vs : List V), DpAll K H vs ds → DpAll K H' vs ds
  | [], _, h => by cases h; exact .nil
  | d :: ds, _, h => by
    cases h with
    | cons h1 h2 => exact .cons (dp_up e d _ h1) (dps_up e ds _ h2)
end
section
variable {K : PySem.W.Frag} {H H' : Hp}
theorem dps_len : ∀ {ds : List PyData} {vs : List V}, DpAll K H vs ds → vs.length = ds.length
  | [], _, h => by cases h; rfl
  | _ :: _, _, h => by
    cases h with
    | cons _ h2 => simp [dps_len h2]
theorem dps_get : ∀ {ds : List PyData} {vs : List V} {i : Nat} {d : PyData}, DpAll K H vs ds → ds[i]? = some d → ∃ v, vs[i]? = some v ∧ Dp K H v d
  | [], _, _, _, _, e => by simp at e
  | x :: ds, _, 0, d, h, e => by
    cases h with
    | cons h1 _ => simp at e; subst e; exact ⟨_, rfl, h1⟩
  | x :: ds, _, i + 1, d, h, e => by
    cases h with
    | cons _ h2 =>
      obtain ⟨v, q1, q2⟩ := dps_get (i := i) (d := d) h2 (by simpa using e)
      exact ⟨v, by simpa using q1, q2⟩
theorem dps_getv : ∀ {ds : List PyData} {vs : List V} {i : Nat} {v : V}, DpAll K H vs ds → vs[i]? = some v → ∃ d, ds[i]? = some d ∧ Dp K H v d
  | [], _, _, _, h, e => by cases h; simp at e
  | x :: ds, _, 0, v, h, e => by
    cases h with
    | cons h1 _ => simp at e; subst e; exact ⟨_, rfl, h1⟩
  | x :: ds, _, i + 1, v, h, e => by
    cases h with
    | cons _ h2 =>
      obtain ⟨d, q1, q2⟩ := dps_getv (i := i) (v := v) h2 (by simpa using e)
      exact ⟨d, by simpa using q1, q2⟩
theorem dps_app : ∀ {ds es : List PyData} {vs ws : List V}, DpAll K H vs ds → DpAll K H ws es → DpAll K H (vs ++ ws) (ds ++ es)
  | [], _, _, _, h, r => by cases h; exact r
  | _ :: _, _, _, _, h, r => by
    cases h with
    | cons h1 h2 => exact .cons h1 (dps_app h2 r)
theorem dps_take : ∀ {ds : List PyData} {vs : List V} (n : Nat), DpAll K H vs ds → DpAll K H (vs.take n) (ds.take n)
  | _, _, 0, _ => by simpa using (DpAll.nil : DpAll K H [] [])
  | [], _, n + 1, h => by cases h; simpa using (DpAll.nil : DpAll K H [] [])
  | _ :: _, _, n + 1, h => by
    cases h with
    | cons h1 h2 => exact .cons h1 (dps_take n h2)
theorem dps_drop : ∀ {ds : List PyData} {vs : List V} (n : Nat), DpAll K H vs ds → DpAll K H (vs.drop n) (ds.drop n)
  | _, _, 0, h => h
  | [], _, n + 1, h => by cases h; simpa using (DpAll.nil : DpAll K H [] [])
  | _ :: _, _, n + 1, h => by
    cases h with
    | cons _ h2 => exact dps_drop n h2
theorem dps_set : ∀ {ds : List PyData} {vs : List V} {v : V} {d : PyData} (i : Nat), Dp K H v d → DpAll K H vs ds → DpAll K H (vs.set i v) (ds.set i d)
  | [], _, _, _, _, _, h => by cases h; exact .nil
  | _ :: _, _, _, _, 0, r, h => by
    cases h with
    | cons _ h2 => exact .cons r h2
  | _ :: _, _, _, _, i + 1, r, h => by
    cases h with
    | cons h1 h2 => exact .cons h1 (dps_set i r h2)
theorem dps_erase : ∀ {ds : List PyData} {vs : List V} (i : Nat), DpAll K H vs ds → DpAll K H (vs.eraseIdx i) (ds.eraseIdx i)
  | [], _, _, h => by cases h; simpa using (DpAll.nil : DpAll K H [] [])
  | _ :: _, _, 0, h => by
    cases h with
    | cons _ h2 => exact h2
  | _ :: _, _, i + 1, h => by
    cases h with
    | cons h1 h2 => exact .cons h1 (dps_erase i h2)
theorem dps_rev {ds : List PyData} {vs : List V} (h : DpAll K H vs ds) : DpAll K H vs.reverse ds.reverse := by
  induction ds generalizing vs with
  | nil => cases h; exact .nil
  | cons d ds ih =>
    cases h with
    | cons h1 h2 =>
      rw [List.reverse_cons, List.reverse_cons]
      exact dps_app (ih h2) (.cons h1 .nil)
theorem dps_rep {ds : List PyData} {vs : List V} (h : DpAll K H vs ds) : ∀ n : Nat, DpAll K H (List.replicate n vs).flatten (List.replicate n ds).flatten
  | 0 => .nil
  | n + 1 => by
    rw [List.replicate_succ, List.replicate_succ, List.flatten_cons, List.flatten_cons]
    exact dps_app h (dps_rep h n)
theorem dps_ints : ∀ ns : List Int, DpAll K H (ns.map V.int) (ns.map PyData.int)
  | [] => .nil
  | n :: ns => .cons (.int n) (dps_ints ns)
end

/-! ## the relations -/
structure PXx (x : List Addr) (H : Hp) (h : MH) (H' : Hp) (h' : MH) : Prop where
  ex : Sub (Fzx x H h) (Fzx x H' h')
  kx : ∀ a, a ∈ x → H' a = H a
/-- what a derivation leans on: lists that are being made (not to be read), tables of code objects, what stays true -/
structure GI where
  x : List Addr
  T : List (Addr × Str)
  G : Hp → MH → Prop
  st : ∀ {H h H' h'}, PXx x H h H' h' → G H h → G H' h'
abbrev Fz (Γ : GI) (H : Hp) (h : MH) : Hp := Fzx Γ.x H h
abbrev PX (Γ : GI) (H : Hp) (h : MH) (H' : Hp) (h' : MH) : Prop := PXx Γ.x H h H' h'
def RV (K : PySem.W.Frag) (Γ : GI) (H : Hp) (h : MH) (x : SV) (v : V) : Prop := match x with
  | .d d => Dp K (Fz Γ H h) v d
  | .own a => v = .ref a
def RVF (K : PySem.W.Frag) (F : Hp) (x : SV) (v : V) : Prop := match x with
  | .d d => Dp K F v d
  | .own a => v = .ref a
theorem rvf_up {K : PySem.W.Frag} {F F' : Hp} (e : Sub F F') : ∀ {x : SV} {v : V}, RVF K F x v → RVF K F' x v
  | .d d, v, r => dp_up e d v r
  | .own _, _, r => r
def RPF {κ : Type} (K : PySem.W.Frag) (F : Hp) (p : κ × SV) (q : κ × V) : Prop := p.1 = q.1 ∧ RVF K F p.2 q.2
theorem paired_imp {α β : Type} {R S : α → β → Prop} (f : ∀ a b, R a b → S a b) : ∀ {l : List α} {m : List β}, Paired R l m → Paired S l m
  | _, _, .nil => .nil
  | _, _, .cons h t => .cons (f _ _ h) (paired_imp f t)
/-- rows of a dict whose keys are tuples of ints -/
def RQF (K : PySem.W.Frag) (F : Hp) (p : List Int × PyData) (q : QRow) : Prop := p.1 = q.1 ∧ SqT K F q.2.1 (q.1.map V.int) ∧ Dp K F q.2.2 p.2
/-- content beside content -/
def ROF (K : PySem.W.Frag) (F : Hp) : MO → HO → Prop
  | .lst xs, .lst vs => DpAll K F vs xs
  | .seq xs, .lst vs => Paired (RVF K F) xs vs
  | .tpl xs, .tup vs => Paired (RVF K F) xs vs
  | .dct ps, .dK kvs => Paired (RPF K F) ps kvs
  | .dcT a ps, .ext φ => ∃ L, φ = TDp a L ∧ Paired (RQF K F) ps L
  | .ins C fs, .ins C' _ gs => C = C' ∧ Paired (RPF K F) fs gs
  | _, _ => False
theorem rof_up {K : PySem.W.Frag} {F F' : Hp} (e : Sub F F') {o : MO} {u : HO} (r : ROF K F o u) : ROF K F' o u := by
  cases o <;> cases u <;> first | exact r.elim | exact dps_up e _ _ r | exact paired_imp (fun _ _ => rvf_up e) r | exact paired_imp (fun _ _ z => ⟨z.1, rvf_up e z.2⟩) r | exact ⟨r.1, paired_imp (fun _ _ z => ⟨z.1, rvf_up e z.2⟩) r.2⟩ | exact ⟨r.choose, r.choose_spec.1, paired_imp (fun _ _ z => ⟨z.1, sqT_up e z.2.1, dp_up e _ _ z.2.2⟩) r.choose_spec.2⟩
/-- what no table is -/
def plainO : HO → Bool
  | .lst _ => true
  | .tup _ => true
  | .dK _ => true
  | .dT _ => true
  | .ins _ _ _ => true
  | _ => false
def plainP (u : HO) : Prop := plainO u = true ∨ ∃ a L, u = TD a L
theorem rof_plain {K : PySem.W.Frag} {F : Hp} {o : MO} {u : HO} (r : ROF K F o u) : plainP u := by
  cases o <;> cases u <;> first | exact .inl rfl | exact r.elim | exact .inr ⟨_, r.choose, congrArg HO.ext r.choose_spec.1⟩
theorem not_plain_code {c : Addr} {q : Str} : ¬ plainP (LamX.CodeO c q) := fun z => z.elim (fun y => Bool.noConfusion y) fun ⟨_, _, y⟩ => td_code y
theorem not_plain_tbl {ps : Array Value} : ¬ plainP (.tbl ps) := fun z => z.elim (fun y => Bool.noConfusion y) fun ⟨_, _, y⟩ => HO.noConfusion y
def RO (K : PySem.W.Frag) (Γ : GI) (H : Hp) (h : MH) (a : Addr) (o : MO) : Prop := match o with
  | .lst xs => ∃ vs, H a = some (.lst vs) ∧ DpAll K (Fz Γ H h) vs xs
  | o => ∃ u, H a = some u ∧ ROF K (Fz Γ H h) o u
theorem ro_of {K : PySem.W.Frag} {Γ : GI} {H : Hp} {h : MH} {a : Addr} {o : MO} {u : HO} (e : H a = some u) (r : ROF K (Fz Γ H h) o u) : RO K Γ H h a o := by
  cases o with
  | lst xs =>
    cases u <;> first | exact r.elim | exact ⟨_, e, r⟩
  | _ => exact ⟨u, e, r⟩
theorem ro_at {K : PySem.W.Frag} {Γ : GI} {H : Hp} {h : MH} {a : Addr} {o : MO} (r : RO K Γ H h a o) : ∃ u, H a = some u ∧ ROF K (Fz Γ H h) o u := by
  cases o with
  | lst xs =>
    obtain ⟨vs, e, q⟩ := r
    exact ⟨_, e, q⟩
  | _ => exact r
theorem ro_up {K : PySem.W.Frag} {Γ Γ' : GI} {H H' : Hp} {h h' : MH} {a : Addr} {o : MO} (e : ∀ u, H a = some u → H' a = some u) (s : Sub (Fz Γ H h) (Fz Γ' H' h')) (r : RO K Γ H h a o) : RO K Γ' H' h' a o := by
  obtain ⟨u, e1, e2⟩ := ro_at r
  exact ro_of (e u e1) (rof_up s e2)
structure RM (K : PySem.W.Frag) (Γ : GI) (H : Hp) (h : MH) : Prop where
  ob : ∀ a o, h a = some o → RO K Γ H h a o
  g : Γ.G H h
  nx : ∀ a, a ∈ Γ.x → h a = none ∧ ∃ xs, H a = some (.lst xs)
  tb : LamX.Tabs Γ.T H
theorem PXx.refl {x : List Addr} {H : Hp} {h : MH} : PXx x H h H h := ⟨fun _ _ e => e, fun _ _ => rfl⟩
theorem PXx.trans {x : List Addr} {H H1 H2 : Hp} {h h1 h2 : MH} (a : PXx x H h H1 h1) (b : PXx x H1 h1 H2 h2) : PXx x H h H2 h2 := ⟨fun x o e => b.ex x o (a.ex x o e), fun p hp => (b.kx p hp).trans (a.kx p hp)⟩
theorem PX.refl {H : Hp} {h : MH} : PX Γ H h H h := PXx.refl
/-- tables stay where all but lists stay -/
theorem tabs_but {T : List (Addr × Str)} {H H' : Hp} (t : LamX.Tabs T H) (e : ∀ b o, H b = some o → ¬ plainP o → H' b = some o) : LamX.Tabs T H' := fun p hp => by
  obtain ⟨ps, h1, h2, h3⟩ := t p hp
  refine ⟨ps, e _ _ h1 not_plain_tbl, h2, fun pos cv hc => ?_⟩
  obtain ⟨c, e1, e2⟩ := h3 pos cv hc
  exact ⟨c, e1, e _ _ e2 not_plain_code⟩
theorem tabs_upd {T : List (Addr × Str)} {H : Hp} {p : Addr} {o : HO} (t : LamX.Tabs T H) (hp : H p = none ∨ ∃ u, H p = some u ∧ plainP u) : LamX.Tabs T (upd H p o) := tabs_but t fun b u e n => by
  rw [upd_ne]
  · exact e
  · intro z
    subst z
    rcases hp with q | ⟨w, q, y⟩
    · rw [q] at e; cases e
    · rw [q] at e; cases e; exact n y
theorem RM.tracked {K : PySem.W.Frag} {H : Hp} {h : MH} (r : RM K Γ H h) {a : Addr} (n : H a = none) : h a = none := by
  cases q : h a with
  | none => rfl
  | some o =>
    obtain ⟨u, e, _⟩ := ro_at (r.ob a o q)
    rw [n] at e; cases e
theorem RM.notx {K : PySem.W.Frag} {H : Hp} {h : MH} (r : RM K Γ H h) {a : Addr} (n : H a = none) : a ∉ Γ.x := fun z => by
  obtain ⟨_, xs, e⟩ := r.nx a z
  rw [n] at e; cases e
theorem RM.ownx {K : PySem.W.Frag} {H : Hp} {h : MH} (r : RM K Γ H h) {a : Addr} {o : MO} (n : h a = some o) : a ∉ Γ.x := fun z => by
  have q := (r.nx a z).1
  rw [n] at q; cases q
theorem RM.isl {K : PySem.W.Frag} {H : Hp} {h : MH} (r : RM K Γ H h) {a : Addr} {o : MO} (n : h a = some o) : ∃ u, H a = some u ∧ plainP u := by
  obtain ⟨u, e, q⟩ := ro_at (r.ob a o n)
  exact ⟨u, e, rof_plain q⟩
/-- a new tracked thing -/
theorem PX.new {H : Hp} {h : MH} {p : Addr} {o : HO} (n : H p = none) (nx : p ∉ Γ.x) : PX Γ H h (upd H p o) h := by
  refine ⟨fun a u e => ?_, fun a ha => upd_ne fun z => nx (z ▸ ha)⟩
  obtain ⟨e1, e2, e3, e4⟩ := Fz.to e
  exact Fz.of (by rw [upd_ne (ne_of_none e1 n)]; exact e1) e2 e3 e4
theorem RV.up {K : PySem.W.Frag} {H H' : Hp} {h h' : MH} {x : SV} {v : V} (p : PX Γ H h H' h') (r : RV K Γ H h x v) : RV K Γ H' h' x v := by
  cases x with
  | d x => exact dp_up p.ex x v r
  | own a => exact r
theorem RM.nxk {K : PySem.W.Frag} {H H' : Hp} {h h' : MH} (r : RM K Γ H h) (k : ∀ a, a ∈ Γ.x → H' a = H a) (s : ∀ a, a ∈ Γ.x → h' a = h a) : ∀ a, a ∈ Γ.x → h' a = none ∧ ∃ xs, H' a = some (.lst xs) := fun a ha => by
  rw [k a ha, s a ha]
  exact r.nx a ha
theorem RM.new {K : PySem.W.Frag} {H : Hp} {h : MH} {p : Addr} {o : HO} (n : H p = none) (r : RM K Γ H h) : RM K Γ (upd H p o) h := by
  have px : PX Γ H h (upd H p o) h := PX.new n (r.notx n)
  refine ⟨fun a m e => ?_, Γ.st px r.g, r.nxk px.kx fun _ _ => rfl, tabs_upd r.tb (.inl n)⟩
  exact ro_up (fun u e1 => by rw [upd_ne (ne_of_none e1 n)]; exact e1) px.ex (r.ob a m e)
theorem RM.px {K : PySem.W.Frag} {H : Hp} {h : MH} {p : Addr} {o : HO} (n : H p = none) (r : RM K Γ H h) : PX Γ H h (upd H p o) h := PX.new n (r.notx n)
/-- a new list is one's own -/
theorem own_px {H : Hp} {h : MH} {p : Addr} {o : HO} {m : MO} (n : H p = none) (hn : h p = none) (nx : p ∉ Γ.x) : PX Γ H h (upd H p o) (mput h p m) := by
  refine ⟨fun a u e => ?_, fun a ha => upd_ne fun z => nx (z ▸ ha)⟩
  obtain ⟨e1, e2, e3, e4⟩ := Fz.to e
  have ne := ne_of_none e1 n
  exact Fz.of (by rw [upd_ne ne]; exact e1) (by rw [mput_ne ne]; exact e2) e3 e4
theorem own_rmG {K : PySem.W.Frag} {H : Hp} {h : MH} {p : Addr} {u : HO} {o : MO} (n : H p = none) (r : RM K Γ H h) (hd : ROF K (Fz Γ H h) o u) : RM K Γ (upd H p u) (mput h p o) := by
  have nx := r.notx n
  have px : PX Γ H h (upd H p u) (mput h p o) := own_px n (r.tracked n) nx
  refine ⟨fun a m e => ?_, Γ.st px r.g, r.nxk px.kx fun a ha => mput_ne fun z => nx (by rw [← z]; exact ha), tabs_upd r.tb (.inl n)⟩
  by_cases q : a = p
  · subst q
    rw [mput_same] at e; cases e
    exact ro_of upd_same (rof_up px.ex hd)
  · rw [mput_ne q] at e
    exact ro_up (fun u e1 => by rw [upd_ne q]; exact e1) px.ex (r.ob a m e)
theorem own_rm {K : PySem.W.Frag} {H : Hp} {h : MH} {p : Addr} {vs : List V} {ds : List PyData} (n : H p = none) (r : RM K Γ H h) (hd : DpAll K (Fz Γ H h) vs ds) : RM K Γ (upd H p (.lst vs)) (mput h p (.lst ds)) := own_rmG n r hd
/-- one's own list is written -/
theorem put_px {K : PySem.W.Frag} {H : Hp} {h : MH} {p : Addr} {o : HO} {m m' : MO} (hp : h p = some m) (r : RM K Γ H h) : PX Γ H h (upd H p o) (mput h p m') := by
  refine ⟨fun a u e => ?_, fun a ha => upd_ne fun z => r.ownx hp (z ▸ ha)⟩
  obtain ⟨e1, e2, e3, e4⟩ := Fz.to e
  have ne : a ≠ p := fun q => by rw [q, hp] at e2; cases e2
  exact Fz.of (by rw [upd_ne ne]; exact e1) (by rw [mput_ne ne]; exact e2) e3 e4
theorem put_rmG {K : PySem.W.Frag} {H : Hp} {h : MH} {p : Addr} {u : HO} {m o : MO} (hp : h p = some m) (r : RM K Γ H h) (hd : ROF K (Fz Γ H h) o u) : RM K Γ (upd H p u) (mput h p o) := by
  have px : PX Γ H h (upd H p u) (mput h p o) := put_px hp r
  have nx := r.ownx hp
  refine ⟨fun a m' e => ?_, Γ.st px r.g, r.nxk px.kx fun a ha => mput_ne fun z => nx (by rw [← z]; exact ha), tabs_upd r.tb (.inr (r.isl hp))⟩
  by_cases q : a = p
  · subst q
    rw [mput_same] at e; cases e
    exact ro_of upd_same (rof_up px.ex hd)
  · rw [mput_ne q] at e
    exact ro_up (fun u e1 => by rw [upd_ne q]; exact e1) px.ex (r.ob a m' e)
theorem put_rm {K : PySem.W.Frag} {H : Hp} {h : MH} {p : Addr} {vs : List V} {m : MO} {ds : List PyData} (hp : h p = some m) (r : RM K Γ H h) (hd : DpAll K (Fz Γ H h) vs ds) : RM K Γ (upd H p (.lst vs)) (mput h p (.lst ds)) := put_rmG hp r hd
/-- what is one's own may be let go -/
theorem drop_px {H : Hp} {h h' : MH} (s : ∀ a, h a = none → h' a = none) : PX Γ H h H h' :=
  ⟨fun a u e => let ⟨e1, e2, e3, e4⟩ := Fz.to e; Fz.of e1 (s a e2) e3 e4, fun _ _ => rfl⟩
theorem drop_rm {K : PySem.W.Frag} {H : Hp} {h h' : MH} (s : ∀ a o, h' a = some o → h a = some o) (r : RM K Γ H h) : RM K Γ H h' := by
  have sn : ∀ a, h a = none → h' a = none := fun a n => by
    cases q : h' a with
    | none => rfl
    | some o => rw [s a o q] at n; cases n
  have px : PX Γ H h H h' := drop_px sn
  refine ⟨fun a m e => ?_, Γ.st px r.g, fun a ha => ⟨sn a (r.nx a ha).1, (r.nx a ha).2⟩, r.tb⟩
  exact ro_up (fun _ q => q) px.ex (r.ob a m (s a m e))

/-! ## slots -/
def RSt (K : PySem.W.Frag) (Γ : GI) (H : Hp) (h : MH) (σd : DSt) (σ : L2.St) : Prop := σd.length = σ.length ∧ ∀ (i : Nat) (x : SV), σd[i]? = some (some x) → ∃ v, σ[i]? = some (some v) ∧ RV K Γ H h x v
section
variable {K : PySem.W.Frag} {H H' : Hp} {h h' : MH} {σd : DSt} {σ : L2.St}
theorem RSt.up (p : PX Γ H h H' h') (r : RSt K Γ H h σd σ) : RSt K Γ H' h' σd σ := ⟨r.1, fun i x e => let ⟨v, e1, e2⟩ := r.2 i x e; ⟨v, e1, e2.up p⟩⟩
theorem RSt.set {i : Nat} {x : SV} {v : V} (r : RSt K Γ H h σd σ) (rv : RV K Γ H h x v) : RSt K Γ H h (σd.set i (some x)) (σ.set i (some v)) := by
  refine ⟨by simp [r.1], fun j y e => ?_⟩
  by_cases q : i = j
  · subst q
    by_cases l : i < σd.length
    · rw [List.getElem?_set_self l] at e
      cases e
      exact ⟨v, by rw [List.getElem?_set_self (by rw [← r.1]; exact l)], rv⟩
    · rw [List.getElem?_eq_none (by simpa using l)] at e; cases e
  · rw [List.getElem?_set_ne q] at e
    obtain ⟨w, e1, e2⟩ := r.2 j y e
    exact ⟨w, by rw [List.getElem?_set_ne q]; exact e1, e2⟩
theorem RSt.clr {i : Nat} (r : RSt K Γ H h σd σ) (o : Option V) : RSt K Γ H h (σd.set i none) (σ.set i o) := by
  refine ⟨by simp [r.1], fun j y e => ?_⟩
  by_cases q : i = j
  · subst q
    by_cases l : i < σd.length
    · rw [List.getElem?_set_self l] at e; cases e
    · rw [List.getElem?_eq_none (by simpa using l)] at e; cases e
  · rw [List.getElem?_set_ne q] at e
    obtain ⟨w, e1, e2⟩ := r.2 j y e
    exact ⟨w, by rw [List.getElem?_set_ne q]; exact e1, e2⟩
end

/-! ## lifting -/
def lift {α β : Type} (K : PySem.W.Frag) (Γ : GI) (R : Hp → MH → α → β → Prop) (t : DSt → MH → (α → MH → Prop) → Prop) : L2.St → Hp → (β → Hp → Prop) → Prop :=
  fun σ H Q => ∃ σd h, RSt K Γ H h σd σ ∧ RM K Γ H h ∧ t σd h fun x h' => ∀ v H', PX Γ H h H' h' → R H' h' x v → RM K Γ H' h' → Q v H'
def Mono {α : Type} (t : DSt → MH → (α → MH → Prop) → Prop) : Prop := ∀ σ h (Q Q' : α → MH → Prop), (∀ x h', Q x h' → Q' x h') → t σ h Q → t σ h Q'
theorem lift_mk {α β : Type} {K : PySem.W.Frag} {R : Hp → MH → α → β → Prop} {t : DSt → MH → (α → MH → Prop) → Prop} {σd : DSt} {h : MH} {σ : L2.St} {H : Hp} {C : α → MH → Prop} {P : β → Hp → Prop} (m : Mono t)
    (rs : RSt K Γ H h σd σ) (rm : RM K Γ H h) (ht : t σd h C) (k : ∀ x h1 v H1, PX Γ H h H1 h1 → RSt K Γ H1 h1 σd σ → R H1 h1 x v → RM K Γ H1 h1 → C x h1 → P v H1) : lift K Γ R t σ H P :=
  ⟨σd, h, rs, rm, m _ _ _ _ (fun x h1 c v H1 px r1 rm1 => k x h1 v H1 px (rs.up px) r1 rm1 c) ht⟩
abbrev liftV (K : PySem.W.Frag) (Γ : GI) (t : DTE) : TE := lift K Γ (RV K Γ) t
abbrev liftB (K : PySem.W.Frag) (Γ : GI) (t : DTT) : TT := lift K Γ (fun _ _ a b => a = b) t
abbrev RVs (K : PySem.W.Frag) (Γ : GI) (H : Hp) (h : MH) : List SV → List V → Prop := Paired (RV K Γ H h)
abbrev liftA (K : PySem.W.Frag) (Γ : GI) (t : DTA) : TA := lift K Γ (RVs K Γ) t
theorem rvs_up {K : PySem.W.Frag} {H H' : Hp} {h h' : MH} (p : PX Γ H h H' h') : ∀ {xs : List SV} {vs : List V}, RVs K Γ H h xs vs → RVs K Γ H' h' xs vs
  | _, _, .nil => .nil
  | _, _, .cons r t => .cons (r.up p) (rvs_up p t)

structure DE (X : Cx) (Γ : GI) (e : Expr) (t : DTE) : Prop where
  mono : Mono t
  pe : PE X e (liftV X.K Γ t)
structure DT (X : Cx) (Γ : GI) (e : Expr) (t : DTT) : Prop where
  mono : Mono t
  pt : PT X e (liftB X.K Γ t)
structure DA (X : Cx) (Γ : GI) (es : List Expr) (t : DTA) : Prop where
  mono : Mono t
  pa : PA X es (liftA X.K Γ t)
theorem pe_imp {X : Cx} {e : Expr} {t t' : TE} (p : PE X e t) (k : ∀ σ H Q, t' σ H Q → t σ H Q) : PE X e t' := ⟨fun pins s σ H Q I w => p.run pins s σ H Q I (k σ H Q w)⟩
theorem pt_imp {X : Cx} {e : Expr} {t t' : TT} (p : PT X e t) (k : ∀ σ H Q, t' σ H Q → t σ H Q) : PT X e t' := ⟨fun pins s σ H Q I w => p.run pins s σ H Q I (k σ H Q w)⟩
theorem pw_imp {X : Cx} {e : Expr} {t t' : TT} (p : PW X e t) (k : ∀ σ H Q, t' σ H Q → t σ H Q) : PW X e t' := ⟨fun whole pins s σ H Q I w => p.run whole pins s σ H Q I (k σ H Q w)⟩
theorem pa_imp {X : Cx} {e : List Expr} {t t' : TA} (p : PA X e t) (k : ∀ σ H Q, t' σ H Q → t σ H Q) : PA X e t' := ⟨fun pos pins s σ H Q I w => p.run pos pins s σ H Q I (k σ H Q w)⟩
theorem ps_imp {X : Cx} {e : Stmt} {t t' : TS} (p : PS X e t) (k : ∀ D σ H, t' D σ H → t D σ H) : PS X e t' := ⟨fun pins s σ H D I w => p.run pins s σ H D I (k D σ H w)⟩
theorem pss_imp {X : Cx} {e : List Stmt} {t t' : TS} (p : PSs X e t) (k : ∀ D σ H, t' D σ H → t D σ H) : PSs X e t' := ⟨fun pins s σ H D I w => p.run pins s σ H D I (k D σ H w)⟩

/-! ## names, constants -/
section
variable {X : Cx} {a b c e : Expr} {pos : Pos}
def slot (σ : DSt) (i : Nat) : Option SV := match σ[i]? with
  | some o => o
  | none => none
def dVar (i : Nat) : DTE := fun σ h Q => match slot σ i with
  | some x => Q x h
  | none => False
theorem mono_var {i : Nat} : Mono (dVar i) := fun σ h Q Q' k w => by
  unfold dVar at w ⊢
  cases e : slot σ i with
  | none => rw [e] at w; exact w
  | some x => rw [e] at w; exact k _ _ w
theorem de_name {i : Nat} {x : Str} (p : PE X (.Name x pos) (tVar i)) : DE X Γ (.Name x pos) (dVar i) := by
  refine ⟨mono_var, pe_imp p fun σ H Q ⟨σd, h, rs, rm, w⟩ => ?_⟩
  unfold dVar at w
  have hs : ∀ y, slot σd i = some y → σd[i]? = some (some y) := fun y hy => by
    unfold slot at hy
    cases q : σd[i]? with
    | none => rw [q] at hy; cases hy
    | some o => rw [q] at hy; subst hy; rfl
  cases e : slot σd i with
  | none => rw [e] at w; exact w.elim
  | some y =>
    rw [e] at w
    obtain ⟨v, e1, e2⟩ := rs.2 i y (hs y e)
    exact ⟨v, e1, w v H PX.refl e2 rm⟩
theorem dv (i : Nat) {x : Str} (hN : X.N[i]? = some x := by rfl) (hv : Vis X.env.scope x := by first | exact Or.inl rfl | exact Or.inr (Or.inl rfl) | exact Or.inr (Or.inr rfl)) (hd : (x == ("__debug__" : Str)) = false := by decide)
    (hcd : (x == ("__classdict__" : Str)) = false := by decide) : DE X Γ (.Name x pos) (dVar i) := de_name (pe_var hN hv hd hcd)
def dC (x : PyData) : DTE := fun _ h Q => Q (.d x) h
theorem mono_c {x : PyData} : Mono (dC x) := fun _ _ _ _ k w => k _ _ w
theorem de_c {v : V} {x : PyData} (p : PE X e (tC v)) (r : ∀ H, Dp X.K H v x) : DE X Γ e (dC x) := ⟨mono_c, pe_imp p fun σ H Q ⟨σd, h, rs, rm, w⟩ => w v H PX.refl (r _) rm⟩
theorem de_int {i j} : DE X Γ (.Constant (.int i) j pos) (dC (.int i)) := de_c pe_int fun _ => .int i
theorem de_bl {b j} : DE X Γ (.Constant (.bool b) j pos) (dC (.bool b)) := de_c pe_bl fun _ => .bl b
theorem de_non {j} : DE X Γ (.Constant .none j pos) (dC .none) := de_c pe_non fun _ => .non
theorem de_str {x j} : DE X Γ (.Constant (.str x) j pos) (dC (.str x)) := de_c pe_str fun _ => .str x
end
end DL

namespace DL
open PySem PySem.Spec PyProof.Rows L2
set_option autoImplicit true

/-! ## operators by values -/
abbrev DR2 := SV → SV → MH → DK → Prop
structure LR2 (K : PySem.W.Frag) (Γ : GI) (r' : DR2) (r : R2) : Prop where
  mono : ∀ x y h (Q Q' : DK), (∀ z h', Q z h' → Q' z h') → r' x y h Q → r' x y h Q'
  run : ∀ x y v u H h (C : DK) (Q : VK), RV K Γ H h x v → RV K Γ H h y u → RM K Γ H h → r' x y h C → (∀ z h' w H', PX Γ H h H' h' → RV K Γ H' h' z w → RM K Γ H' h' → C z h' → Q w H') → r v u H Q
abbrev DRA := List SV → MH → DK → Prop
structure LRA (K : PySem.W.Frag) (Γ : GI) (r' : DRA) (r : List V → Hp → VK → Prop) : Prop where
  mono : ∀ xs h (Q Q' : DK), (∀ z h', Q z h' → Q' z h') → r' xs h Q → r' xs h Q'
  run : ∀ xs vs H h (C : DK) (Q : VK), RVs K Γ H h xs vs → RM K Γ H h → r' xs h C → (∀ z h' w H', PX Γ H h H' h' → RV K Γ H' h' z w → RM K Γ H' h' → C z h' → Q w H') → r vs H Q
/-- a call that gives a fresh list -/
abbrev DRF := List SV → MH → (List PyData → MH → Prop) → Prop
structure LRF (K : PySem.W.Frag) (Γ : GI) (r' : DRF) (r : List V → Hp → VK → Prop) : Prop where
  mono : ∀ xs h (Q Q' : List PyData → MH → Prop), (∀ z h', Q z h' → Q' z h') → r' xs h Q → r' xs h Q'
  run : ∀ xs vs H h (C : List PyData → MH → Prop) (Q : VK), RVs K Γ H h xs vs → RM K Γ H h → r' xs h C →
    (∀ ds h' ws H' p, PX Γ H h H' h' → DpAll K (Fz Γ H' h') ws ds → RM K Γ H' h' → C ds h' → H' p = none → Q (.ref p) (upd H' p (.lst ws))) → r vs H Q

/-- an expression that gives a fresh list -/
def liftF (K : PySem.W.Frag) (Γ : GI) (t : DTF) : TE := fun σ H Q => ∃ σd h, RSt K Γ H h σd σ ∧ RM K Γ H h ∧ t σd h fun ds h' => ∀ ws H' p, PX Γ H h H' h' → DpAll K (Fz Γ H' h') ws ds → RM K Γ H' h' → H' p = none → Q (.ref p) (upd H' p (.lst ws))
structure DF (X : Cx) (Γ : GI) (e : Expr) (t : DTF) : Prop where
  mono : Mono t
  pe : PE X e (liftF X.K Γ t)
def dL (t : DTF) : DTE := fun σ h Q => t σ h fun ds h' => Q (.d (.list ds)) h'
theorem mono_L {t : DTF} (m : Mono t) : Mono (dL t) := fun σ h Q Q' k w => m σ h _ _ (fun ds h' q => k _ _ q) w
/-- a new list, not one's own -/
theorem new_list {K : PySem.W.Frag} {H : Hp} {h : MH} {p : Addr} {ws : List V} {ds : List PyData} (n : H p = none) (rm : RM K Γ H h) (hd : DpAll K (Fz Γ H h) ws ds) :
    PX Γ H h (upd H p (.lst ws)) h ∧ RM K Γ (upd H p (.lst ws)) h ∧ RV K Γ (upd H p (.lst ws)) h (.d (.list ds)) (.ref p) :=
  ⟨rm.px n, RM.new n rm, Dp.lst (SqL.of (Fz.of upd_same (rm.tracked n) (rm.notx n))) (dps_up (rm.px n).ex _ _ hd)⟩
theorem new_tup {K : PySem.W.Frag} {H : Hp} {h : MH} {p : Addr} {ws : List V} {ds : List PyData} (n : H p = none) (rm : RM K Γ H h) (hd : DpAll K (Fz Γ H h) ws ds) :
    PX Γ H h (upd H p (.tup ws)) h ∧ RM K Γ (upd H p (.tup ws)) h ∧ RV K Γ (upd H p (.tup ws)) h (.d (.tuple ds)) (.ref p) :=
  ⟨rm.px n, RM.new n rm, Dp.tup (SqT.of (Fz.of upd_same (rm.tracked n) (rm.notx n))) (dps_up (rm.px n).ex _ _ hd)⟩
theorem DF.toDE {X : Cx} {e : Expr} {t : DTF} (f : DF X Γ e t) : DE X Γ e (dL t) :=
  ⟨mono_L f.mono, pe_imp f.pe fun σ H Q ⟨σd, h, rs, rm, w⟩ => ⟨σd, h, rs, rm, f.mono _ _ _ _ (fun ds h' q ws H' p px hd rm' n => by
    obtain ⟨p1, r1, v1⟩ := new_list n rm' hd
    exact q _ _ (px.trans p1) v1 r1) w⟩⟩

section
variable {X : Cx} {a b c e : Expr} {pos : Pos} {ta tb tc : DTE}
def dOp (r : DR2) (ta tb : DTE) : DTE := fun σ h Q => ta σ h fun x h1 => tb σ h1 fun y h2 => r x y h2 Q
theorem mono_op {r : DR2} (m : ∀ x y h (Q Q' : DK), (∀ z h', Q z h' → Q' z h') → r x y h Q → r x y h Q') (ma : Mono ta) (mb : Mono tb) : Mono (dOp r ta tb) :=
  fun σ h Q Q' k w => ma _ _ _ _ (fun x h1 w1 => mb _ _ _ _ (fun y h2 w2 => m _ _ _ _ _ k w2) w1) w
theorem op_lift {K : PySem.W.Frag} {r' : DR2} {r : R2} (l : LR2 K Γ r' r) (ma : Mono ta) (mb : Mono tb) : ∀ σ H Q, liftV K Γ (dOp r' ta tb) σ H Q → tOp r (liftV K Γ ta) (liftV K Γ tb) σ H Q := fun σ H Q ⟨σd, h, rs, rm, w⟩ =>
  lift_mk ma rs rm w fun x h1 v H1 px rs1 rv rm1 w1 => lift_mk mb rs1 rm1 w1 fun y h2 u H2 px2 rs2 ru rm2 w2 =>
    l.run x y v u H2 h2 _ Q (rv.up px2) ru rm2 w2 fun z h3 w' H3 px3 rz rm3 q => q w' H3 ((px.trans px2).trans px3) rz rm3
theorem de_bin {op : Operator} {r' : DR2} {r : R2} (ho : OpR X (binaryOp op) r) (l : LR2 X.K Γ r' r) (ha : DE X Γ a ta) (hb : DE X Γ b tb) : DE X Γ (.BinOp a op b pos) (dOp r' ta tb) :=
  ⟨mono_op l.mono ha.mono hb.mono, pe_imp (pe_op ho ha.pe hb.pe) (op_lift l ha.mono hb.mono)⟩
theorem de_cmp {op : CmpOp} {r' : DR2} {r : R2} (ho : OpR X (compareOp op) r) (l : LR2 X.K Γ r' r) (ha : DE X Γ a ta) (hb : DE X Γ b tb) (hm : behindInMarks op b = false := by first | exact nomark _ | rfl) : DE X Γ (.Compare a [op] [b] pos) (dOp r' ta tb) :=
  ⟨mono_op l.mono ha.mono hb.mono, pe_imp (pe_cmpR ho ha.pe hb.pe hm) (op_lift l ha.mono hb.mono)⟩
def dTest (t : DTE) : DTT := fun σ h Q => t σ h fun x h1 => match x with
  | .d (.bool k) => Q k h1
  | _ => False
theorem mono_test {t : DTE} (m : Mono t) : Mono (dTest t) := fun σ h Q Q' k w => m _ _ _ _ (fun x h1 w1 => by
  cases x with
  | own a => exact w1
  | d x => cases x <;> first | exact w1 | exact k _ _ w1) w
theorem test_lift {K : PySem.W.Frag} {t : DTE} (m : Mono t) : ∀ σ H Q, liftB K Γ (dTest t) σ H Q → tTest (liftV K Γ t) σ H Q := fun σ H Q ⟨σd, h, rs, rm, w⟩ =>
  lift_mk m rs rm w fun x h1 v H1 px rs1 rv rm1 w1 => by
    cases x with
    | own a => exact w1.elim
    | d x => cases x with
      | bool k => cases rv; exact ⟨k, rfl, w1 k H1 px rfl rm1⟩
      | _ => exact w1.elim
theorem dt_cmp {op : CmpOp} {r' : DR2} {r : R2} (ho : OpR X (compareOp op) r) (l : LR2 X.K Γ r' r) (ha : DE X Γ a ta) (hb : DE X Γ b tb) (hm : behindInMarks op b = false := by first | exact nomark _ | rfl) : DT X Γ (.Compare a [op] [b] pos) (dTest (dOp r' ta tb)) :=
  ⟨mono_test (mono_op l.mono ha.mono hb.mono), pt_imp (pt_cmpR ho ha.pe hb.pe hm) fun σ H Q w => by
    obtain ⟨σd, h, rs, rm, w⟩ := test_lift (mono_op l.mono ha.mono hb.mono) σ H Q w
    exact op_lift l ha.mono hb.mono σ H _ ⟨σd, h, rs, rm, w⟩⟩
/-- a bool as a test -/
theorem dt_val {t : DTE} (h : DE X Γ e t) (he : ∀ whole, isTrue e X.env whole = (do let v ← whole; standAt e.pos; holding [v] (truthy v)) := by intro _; rfl) : DT X Γ e (dTest t) :=
  ⟨mono_test h.mono, pt_imp (pt_val h.pe he) fun σ H Q w => test_lift h.mono σ H Q w⟩

/-! ## and, or, not, if -/
def dAnd (t u : DTT) : DTT := fun σ h Q => t σ h fun c h1 => if c = true then u σ h1 Q else Q false h1
def dOr (t u : DTT) : DTT := fun σ h Q => t σ h fun c h1 => if c = true then Q true h1 else u σ h1 Q
def dNot (t : DTT) : DTT := fun σ h Q => t σ h fun c h1 => Q (!c) h1
/-- .. as values of truths -/
def dAndV (ta tb : DTE) : DTE := fun σ h Q => ta σ h fun x h1 => match x with
  | .d (.bool c) => if c = true then tb σ h1 Q else Q (.d (.bool false)) h1
  | _ => False
def dOrV (ta tb : DTE) : DTE := fun σ h Q => ta σ h fun x h1 => match x with
  | .d (.bool c) => if c = true then Q (.d (.bool true)) h1 else tb σ h1 Q
  | _ => False
def dNotV (ta : DTE) : DTE := fun σ h Q => ta σ h fun x h1 => match x with
  | .d (.bool c) => Q (.d (.bool (!c))) h1
  | _ => False
def dIf (t : DTT) (ta tb : DTE) : DTE := fun σ h Q => t σ h fun c h1 => if c = true then ta σ h1 Q else tb σ h1 Q
theorem mono_and {t u : DTT} (mt : Mono t) (mu : Mono u) : Mono (dAnd t u) := fun σ h Q Q' k w => mt _ _ _ _ (fun c h1 w1 => by
  cases c with
  | true => exact mu _ _ _ _ k w1
  | false => exact k _ _ w1) w
theorem mono_or {t u : DTT} (mt : Mono t) (mu : Mono u) : Mono (dOr t u) := fun σ h Q Q' k w => mt _ _ _ _ (fun c h1 w1 => by
  cases c with
  | true => exact k _ _ w1
  | false => exact mu _ _ _ _ k w1) w
theorem mono_not {t : DTT} (mt : Mono t) : Mono (dNot t) := fun σ h Q Q' k w => mt _ _ _ _ (fun c h1 w1 => k _ _ w1) w
theorem mono_if {t : DTT} (mt : Mono t) (ma : Mono ta) (mb : Mono tb) : Mono (dIf t ta tb) := fun σ h Q Q' k w => mt _ _ _ _ (fun c h1 w1 => by
  cases c with
  | true => exact ma _ _ _ _ k w1
  | false => exact mb _ _ _ _ k w1) w
theorem mono_andV (ma : Mono ta) (mb : Mono tb) : Mono (dAndV ta tb) := fun σ h Q Q' k w => ma _ _ _ _ (fun x h1 w1 => by
  cases x with
  | own a => exact w1
  | d x => cases x with
    | bool c => cases c with
      | true => exact mb _ _ _ _ k w1
      | false => exact k _ _ w1
    | _ => exact w1) w
theorem mono_orV (ma : Mono ta) (mb : Mono tb) : Mono (dOrV ta tb) := fun σ h Q Q' k w => ma _ _ _ _ (fun x h1 w1 => by
  cases x with
  | own a => exact w1
  | d x => cases x with
    | bool c => cases c with
      | true => exact k _ _ w1
      | false => exact mb _ _ _ _ k w1
    | _ => exact w1) w
theorem mono_notV (ma : Mono ta) : Mono (dNotV ta) := fun σ h Q Q' k w => ma _ _ _ _ (fun x h1 w1 => by
  cases x with
  | own a => exact w1
  | d x => cases x with
    | bool c => exact k _ _ w1
    | _ => exact w1) w
structure DW (X : Cx) (Γ : GI) (e : Expr) (t : DTT) : Prop where
  mono : Mono t
  pw : PW X e (liftB X.K Γ t)
theorem DW.dt {t : DTT} (h : DW X Γ e t) : DT X Γ e t := ⟨h.mono, h.pw.pt⟩
variable {t u : DTT} {rest : List Expr}
theorem dw_and1 (ha : DT X Γ a t) : DW X Γ (.BoolOp .And [a] pos) t := ⟨ha.mono, pw_and1 ha.pt⟩
theorem dw_or1 (ha : DT X Γ a t) : DW X Γ (.BoolOp .Or [a] pos) t := ⟨ha.mono, pw_or1 ha.pt⟩
theorem dw_and (ha : DT X Γ a t) (hb : DW X Γ (.BoolOp .And (b :: rest) pos) u) : DW X Γ (.BoolOp .And (a :: b :: rest) pos) (dAnd t u) :=
  ⟨mono_and ha.mono hb.mono, pw_imp (pw_and ha.pt hb.pw) fun σ H Q ⟨σd, h, rs, rm, w⟩ => lift_mk ha.mono rs rm w fun c h1 k H1 px rs1 rv rm1 w1 => by
    subst rv
    cases c with
    | true => exact iteT (lift_mk hb.mono rs1 rm1 w1 fun c2 h2 k2 H2 px2 _ rv2 rm2 w2 => by subst rv2; exact w2 _ _ (px.trans px2) rfl rm2)
    | false => exact iteF (w1 _ _ px rfl rm1)⟩
theorem dw_or (ha : DT X Γ a t) (hb : DW X Γ (.BoolOp .Or (b :: rest) pos) u) : DW X Γ (.BoolOp .Or (a :: b :: rest) pos) (dOr t u) :=
  ⟨mono_or ha.mono hb.mono, pw_imp (pw_or ha.pt hb.pw) fun σ H Q ⟨σd, h, rs, rm, w⟩ => lift_mk ha.mono rs rm w fun c h1 k H1 px rs1 rv rm1 w1 => by
    subst rv
    cases c with
    | true => exact iteT (w1 _ _ px rfl rm1)
    | false => exact iteF (lift_mk hb.mono rs1 rm1 w1 fun c2 h2 k2 H2 px2 _ rv2 rm2 w2 => by subst rv2; exact w2 _ _ (px.trans px2) rfl rm2)⟩
theorem dt_not (ha : DT X Γ a t) : DT X Γ (.UnaryOp .Not a pos) (dNot t) :=
  ⟨mono_not ha.mono, pt_imp (pt_not ha.pt) fun σ H Q ⟨σd, h, rs, rm, w⟩ => lift_mk ha.mono rs rm w fun c h1 k H1 px rs1 rv rm1 w1 => by subst rv; exact w1 _ _ px rfl rm1⟩
theorem de_ifExp {c : Expr} (hc : DT X Γ c t) (ha : DE X Γ a ta) (hb : DE X Γ b tb) : DE X Γ (.IfExp c a b pos) (dIf t ta tb) :=
  ⟨mono_if hc.mono ha.mono hb.mono, pe_imp (pe_ifExp hc.pt ha.pe hb.pe) fun σ H Q ⟨σd, h, rs, rm, w⟩ => lift_mk hc.mono rs rm w fun c h1 k H1 px rs1 rv rm1 w1 => by
    subst rv
    cases c with
    | true => exact iteT (lift_mk ha.mono rs1 rm1 w1 fun x h2 v H2 px2 _ rv2 rm2 w2 => w2 _ _ (px.trans px2) rv2 rm2)
    | false => exact iteF (lift_mk hb.mono rs1 rm1 w1 fun x h2 v H2 px2 _ rv2 rm2 w2 => w2 _ _ (px.trans px2) rv2 rm2)⟩
theorem de_one {op} {t : DTE} (h : DE X Γ a t) : DE X Γ (.BoolOp op [a] pos) t := ⟨h.mono, pe_one h.pe⟩
theorem de_and (ha : DE X Γ a ta) (hb : DE X Γ (.BoolOp .And (b :: rest) pos) tb) : DE X Γ (.BoolOp .And (a :: b :: rest) pos) (dAndV ta tb) :=
  ⟨mono_andV ha.mono hb.mono, pe_imp (pe_and ha.pe hb.pe) fun σ H Q ⟨σd, h, rs, rm, w⟩ => lift_mk ha.mono rs rm w fun x h1 v H1 px rs1 rv rm1 w1 => by
    cases x with
    | own a => exact w1.elim
    | d x => cases x with
      | bool c =>
        cases rv
        refine ⟨c, rfl, ?_⟩
        cases c with
        | true => exact iteT (lift_mk hb.mono rs1 rm1 w1 fun x h2 v H2 px2 _ rv2 rm2 w2 => w2 _ _ (px.trans px2) rv2 rm2)
        | false => exact iteF (w1 _ _ px (Dp.bl false) rm1)
      | _ => exact w1.elim⟩
theorem de_or (ha : DE X Γ a ta) (hb : DE X Γ (.BoolOp .Or (b :: rest) pos) tb) : DE X Γ (.BoolOp .Or (a :: b :: rest) pos) (dOrV ta tb) :=
  ⟨mono_orV ha.mono hb.mono, pe_imp (pe_or ha.pe hb.pe) fun σ H Q ⟨σd, h, rs, rm, w⟩ => lift_mk ha.mono rs rm w fun x h1 v H1 px rs1 rv rm1 w1 => by
    cases x with
    | own a => exact w1.elim
    | d x => cases x with
      | bool c =>
        cases rv
        refine ⟨c, rfl, ?_⟩
        cases c with
        | true => exact iteT (w1 _ _ px (Dp.bl true) rm1)
        | false => exact iteF (lift_mk hb.mono rs1 rm1 w1 fun x h2 v H2 px2 _ rv2 rm2 w2 => w2 _ _ (px.trans px2) rv2 rm2)
      | _ => exact w1.elim⟩
theorem de_not (ha : DE X Γ a ta) : DE X Γ (.UnaryOp .Not a pos) (dNotV ta) :=
  ⟨mono_notV ha.mono, pe_imp (pe_not ha.pe) fun σ H Q ⟨σd, h, rs, rm, w⟩ => lift_mk ha.mono rs rm w fun x h1 v H1 px rs1 rv rm1 w1 => by
    cases x with
    | own a => exact w1.elim
    | d x => cases x with
      | bool c =>
        cases rv
        exact ⟨c, rfl, w1 _ _ px (Dp.bl (!c)) rm1⟩
      | _ => exact w1.elim⟩
end

/-! ## looks at sequences -/
def asL (h : MH) : SV → Option (List PyData)
  | .d (.list xs) => some xs
  | .own a => match h a with
    | some (.lst xs) => some xs
    | _ => none
  | _ => none
def asT : SV → Option (List PyData)
  | .d (.tuple xs) => some xs
  | _ => none
theorem asL_ok {K : PySem.W.Frag} {H : Hp} {h : MH} {x : SV} {v : V} {xs : List PyData} (rv : RV K Γ H h x v) (rm : RM K Γ H h) (e : asL h x = some xs) : ∃ a vs, v = .ref a ∧ SqL K H a vs ∧ DpAll K (Fz Γ H h) vs xs := by
  cases x with
  | own a =>
    cases q : h a with
    | none => simp only [asL, q] at e; cases e
    | some m =>
      cases m with
      | lst ys =>
        simp only [asL, q] at e; cases e
        obtain ⟨vs, e1, e2⟩ := rm.ob a _ q
        exact ⟨a, vs, rv, SqL.of e1, e2⟩
      | _ => simp only [asL, q] at e; cases e
  | d x =>
    cases x with
    | list ys =>
      cases e
      have rv' : Dp K (Fz Γ H h) v (.list xs) := rv
      cases rv' with
      | lst h1 h2 => exact ⟨_, _, rfl, sqL_up fz_sub h1, h2⟩
    | _ => cases e
theorem asT_ok {K : PySem.W.Frag} {H : Hp} {h : MH} {x : SV} {v : V} {xs : List PyData} (rv : RV K Γ H h x v) (e : asT x = some xs) : ∃ a vs, v = .ref a ∧ SqT K H a vs ∧ DpAll K (Fz Γ H h) vs xs := by
  cases x with
  | own a => cases e
  | d x =>
    cases x with
    | tuple ys =>
      cases e
      have rv' : Dp K (Fz Γ H h) v (.tuple xs) := rv
      cases rv' with
      | tup h1 h2 => exact ⟨_, _, rfl, sqT_up fz_sub h1, h2⟩
    | _ => cases e
def asQ (h : MH) (x : SV) : Option (List PyData) := match asL h x with
  | some xs => some xs
  | none => asT x
theorem asQ_ok {K : PySem.W.Frag} {H : Hp} {h : MH} {x : SV} {v : V} {xs : List PyData} (rv : RV K Γ H h x v) (rm : RM K Γ H h) (e : asQ h x = some xs) : ∃ a vs, v = .ref a ∧ (SqL K H a vs ∨ SqT K H a vs) ∧ DpAll K (Fz Γ H h) vs xs := by
  unfold asQ at e
  cases q : asL h x with
  | some ys =>
    rw [q] at e; cases e
    obtain ⟨a, vs, h1, h2, h3⟩ := asL_ok rv rm q
    exact ⟨a, vs, h1, .inl h2, h3⟩
  | none =>
    rw [q] at e
    obtain ⟨a, vs, h1, h2, h3⟩ := asT_ok rv e
    exact ⟨a, vs, h1, .inr h2, h3⟩

/-! ## freezing -/
def mdrop (h : MH) (a : Addr) : MH := fun b => if b = a then none else h b
def fz1 (x : SV) (h : MH) : Option (PyData × MH) := match x with
  | .d d => some (d, h)
  | .own a => match h a with
    | some (.lst xs) => some (.list xs, mdrop h a)
    | _ => none
theorem mdrop_px {H : Hp} {h : MH} {a : Addr} : PX Γ H h H (mdrop h a) := drop_px fun b n => by
  unfold mdrop
  split
  · rfl
  · exact n
theorem mdrop_rm {K : PySem.W.Frag} {H : Hp} {h : MH} {a : Addr} (r : RM K Γ H h) : RM K Γ H (mdrop h a) := drop_rm (fun b o e => by
  unfold mdrop at e
  split at e
  · cases e
  · exact e) r
theorem fz1_ok {K : PySem.W.Frag} {H : Hp} {h h' : MH} {x : SV} {v : V} {d : PyData} (rv : RV K Γ H h x v) (rm : RM K Γ H h) (e : fz1 x h = some (d, h')) : PX Γ H h H h' ∧ RM K Γ H h' ∧ Dp K (Fz Γ H h') v d := by
  cases x with
  | d y => cases e; exact ⟨PX.refl, rm, rv⟩
  | own a =>
    unfold fz1 at e
    cases q : h a with
    | none => simp only [q] at e; cases e
    | some m =>
      cases m with
      | lst xs =>
        simp only [q] at e
        cases e
        obtain ⟨vs, e1, e2⟩ := rm.ob a _ q
        have rv' : v = .ref a := rv
        subst rv'
        exact ⟨mdrop_px, mdrop_rm rm, Dp.lst (SqL.of (Fz.of e1 (if_pos rfl) (rm.ownx q))) (dps_up mdrop_px.ex _ _ e2)⟩
      | _ => simp only [q] at e; cases e
def fzs : List SV → MH → Option (List PyData × MH)
  | [], h => some ([], h)
  | x :: r, h => match fz1 x h with
    | some (d, h1) => match fzs r h1 with
      | some (ds, h2) => some (d :: ds, h2)
      | none => none
    | none => none
theorem fzs_ok {K : PySem.W.Frag} {H : Hp} : ∀ {xs : List SV} {vs : List V} {h h' : MH} {ds : List PyData}, RVs K Γ H h xs vs → RM K Γ H h → fzs xs h = some (ds, h') → PX Γ H h H h' ∧ RM K Γ H h' ∧ DpAll K (Fz Γ H h') vs ds
  | [], _, _, _, _, r, rm, e => by cases r; cases e; exact ⟨PX.refl, rm, .nil⟩
  | x :: r, _, h, h', ds, rr, rm, e => by
    cases rr with
    | cons r1 r2 =>
      unfold fzs at e
      cases q1 : fz1 x h with
      | none => rw [q1] at e; cases e
      | some p =>
        obtain ⟨d, h1⟩ := p
        rw [q1] at e
        simp only at e
        cases q2 : fzs r h1 with
        | none => rw [q2] at e; cases e
        | some p2 =>
          obtain ⟨ds2, h2⟩ := p2
          rw [q2] at e
          cases e
          obtain ⟨p1, rm1, d1⟩ := fz1_ok r1 rm q1
          obtain ⟨p2, rm2, d2⟩ := fzs_ok (rvs_up p1 r2) rm1 q2
          exact ⟨p1.trans p2, rm2, .cons (dp_up p2.ex _ _ d1) d2⟩

/-! ## argument lists, displays -/
section
variable {X : Cx} {a b c e : Expr} {pos : Pos} {ta tb tc te : DTE} {t : DTA} {es : List Expr}
def dNil : DTA := fun _ h Q => Q [] h
def dCons (ta : DTE) (tr : DTA) : DTA := fun σ h Q => ta σ h fun x h1 => tr σ h1 fun xs h2 => Q (x :: xs) h2
theorem da_nil : DA X Γ [] dNil := ⟨fun _ _ _ _ k w => k _ _ w, pa_imp pa_nil fun σ H Q ⟨σd, h, rs, rm, w⟩ => w _ _ PX.refl .nil rm⟩
theorem mono_cons (ma : Mono ta) (mr : Mono t) : Mono (dCons ta t) := fun σ h Q Q' k w => ma _ _ _ _ (fun x h1 w1 => mr _ _ _ _ (fun xs h2 w2 => k _ _ w2) w1) w
theorem da_cons (ha : DE X Γ e te) (hr : DA X Γ es t) (hs : starEach (e :: es) X.env = (false, eval e X.env) :: starEach es X.env := by rfl) : DA X Γ (e :: es) (dCons te t) :=
  ⟨mono_cons ha.mono hr.mono, pa_imp (pa_cons ha.pe hr.pa hs) fun σ H Q ⟨σd, h, rs, rm, w⟩ =>
    lift_mk ha.mono rs rm w fun x h1 v H1 px rs1 rv rm1 w1 => lift_mk hr.mono rs1 rm1 w1 fun xs h2 vs H2 px2 rs2 rvs rm2 w2 =>
      w2 _ _ (px.trans px2) (.cons (rv.up px2) rvs) rm2⟩
def dTup (t : DTA) : DTE := fun σ h Q => t σ h fun xs h1 => match fzs xs h1 with
  | some (ds, h2) => ds.length ≤ sizeLine ∧ Q (.d (.tuple ds)) h2
  | none => False
def fLst (t : DTA) : DTF := fun σ h Q => t σ h fun xs h1 => match fzs xs h1 with
  | some (ds, h2) => ds.length ≤ sizeLine ∧ Q ds h2
  | none => False
theorem mono_tup (m : Mono t) : Mono (dTup t) := fun σ h Q Q' k w => m _ _ _ _ (fun xs h1 w1 => by
  cases q : fzs xs h1 with
  | none => rw [q] at w1; exact w1
  | some p => obtain ⟨ds, h2⟩ := p; rw [q] at w1; exact ⟨w1.1, k _ _ w1.2⟩) w
theorem mono_fLst (m : Mono t) : Mono (fLst t) := fun σ h Q Q' k w => m _ _ _ _ (fun xs h1 w1 => by
  cases q : fzs xs h1 with
  | none => rw [q] at w1; exact w1
  | some p => obtain ⟨ds, h2⟩ := p; rw [q] at w1; exact ⟨w1.1, k _ _ w1.2⟩) w
theorem de_tup {x1} (ha : DA X Γ es t) : DE X Γ (.Tuple es x1 pos) (dTup t) :=
  ⟨mono_tup ha.mono, pe_imp (pe_tup ha.pa) fun σ H Q ⟨σd, h, rs, rm, w⟩ => lift_mk ha.mono rs rm w fun xs h1 vs H1 px rs1 rvs rm1 w1 => by
    cases q : fzs xs h1 with
    | none => rw [q] at w1; exact w1.elim
    | some p =>
      obtain ⟨ds, h2⟩ := p
      rw [q] at w1
      obtain ⟨p1, rm2, dd⟩ := fzs_ok rvs rm1 q
      refine ⟨by rw [dps_len dd]; exact w1.1, fun p hp => ?_⟩
      obtain ⟨p2, rm3, rv3⟩ := new_tup hp rm2 dd
      exact w1.2 _ _ ((px.trans p1).trans p2) rv3 rm3⟩
theorem df_lst (ha : DA X Γ es t) : DF X Γ (.List es pos) (fLst t) :=
  ⟨mono_fLst ha.mono, pe_imp (pe_lst ha.pa) fun σ H Q ⟨σd, h, rs, rm, w⟩ => lift_mk ha.mono rs rm w fun xs h1 vs H1 px rs1 rvs rm1 w1 => by
    cases q : fzs xs h1 with
    | none => rw [q] at w1; exact w1.elim
    | some p =>
      obtain ⟨ds, h2⟩ := p
      rw [q] at w1
      obtain ⟨p1, rm2, dd⟩ := fzs_ok rvs rm1 q
      exact ⟨by rw [dps_len dd]; exact w1.1, fun p hp => w1.2 _ _ _ (px.trans p1) dd rm2 hp⟩⟩
/-- f(e, ..) of a builtin -/
def dB (r : DRA) (t : DTA) : DTE := fun σ h Q => t σ h fun xs h1 => r xs h1 Q
def fB (r : DRF) (t : DTA) : DTF := fun σ h Q => t σ h fun xs h1 => r xs h1 Q
theorem mono_B {r : DRA} (mr : ∀ xs h (Q Q' : DK), (∀ z h', Q z h' → Q' z h') → r xs h Q → r xs h Q') (m : Mono t) : Mono (dB r t) := fun σ h Q Q' k w => m _ _ _ _ (fun xs h1 w1 => mr _ _ _ _ k w1) w
theorem mono_FB {r : DRF} (mr : ∀ xs h (Q Q' : List PyData → MH → Prop), (∀ z h', Q z h' → Q' z h') → r xs h Q → r xs h Q') (m : Mono t) : Mono (fB r t) := fun σ h Q Q' k w => m _ _ _ _ (fun xs h1 w1 => mr _ _ _ _ k w1) w
theorem B_lift {K : PySem.W.Frag} {r' : DRA} {r : List V → Hp → VK → Prop} (l : LRA K Γ r' r) (m : Mono t) : ∀ σ H Q, liftV K Γ (dB r' t) σ H Q → tCB r (liftA K Γ t) σ H Q := fun σ H Q ⟨σd, h, rs, rm, w⟩ =>
  lift_mk m rs rm w fun xs h1 vs H1 px rs1 rvs rm1 w1 => l.run xs vs H1 h1 _ Q rvs rm1 w1 fun z h2 w' H2 px2 rz rm2 q => q w' H2 (px.trans px2) rz rm2
theorem FB_lift {K : PySem.W.Frag} {r' : DRF} {r : List V → Hp → VK → Prop} (l : LRF K Γ r' r) (m : Mono t) : ∀ σ H Q, liftF K Γ (fB r' t) σ H Q → tCB r (liftA K Γ t) σ H Q := fun σ H Q ⟨σd, h, rs, rm, w⟩ =>
  lift_mk m rs rm w fun xs h1 vs H1 px rs1 rvs rm1 w1 => l.run xs vs H1 h1 _ Q rvs rm1 w1 fun z h2 w' H2 p px2 rz rm2 q n => q w' H2 p (px.trans px2) rz rm2 n
variable {x : Str} {p : Pos} {id T : String} {r : List V → Hp → VK → Prop}
theorem de_callB {r' : DRA} (hc : CallR X (.builtin id) r) (l : LRA X.K Γ r' r) (hg : Gl X x) (hm : X.mg x = none) (hv : bootBuiltins x = some (.builtin id)) (ha : DA X Γ (e :: es) t) (hn : x ≠ "__name__" := by decide) (hdb : (x == ("__debug__" : Str)) = false := by decide)
    (he : starEach (e :: es) X.env = (false, eval e X.env) :: starEach es X.env := by rfl) (hpl : (backTo pos (starEach es X.env)).any (·.1) = false := by rfl) : DE X Γ (.Call (.Name x p) (e :: es) [] pos) (dB r' t) :=
  ⟨mono_B l.mono ha.mono, pe_imp (pe_callB hc hg hm hv ha.pa hn hdb he hpl) (B_lift l ha.mono)⟩
theorem de_callTy {r' : DRA} (hc : CallR X (.type T) r) (l : LRA X.K Γ r' r) (hg : Gl X x) (hm : X.mg x = none) (hv : bootBuiltins x = some (.type T)) (ha : DA X Γ (e :: es) t) (hn : x ≠ "__name__" := by decide) (hdb : (x == ("__debug__" : Str)) = false := by decide)
    (he : starEach (e :: es) X.env = (false, eval e X.env) :: starEach es X.env := by rfl) (hpl : (backTo pos (starEach es X.env)).any (·.1) = false := by rfl) : DE X Γ (.Call (.Name x p) (e :: es) [] pos) (dB r' t) :=
  ⟨mono_B l.mono ha.mono, pe_imp (pe_callTy hc hg hm hv ha.pa hn hdb he hpl) (B_lift l ha.mono)⟩
theorem df_callB {r' : DRF} (hc : CallR X (.builtin id) r) (l : LRF X.K Γ r' r) (hg : Gl X x) (hm : X.mg x = none) (hv : bootBuiltins x = some (.builtin id)) (ha : DA X Γ (e :: es) t) (hn : x ≠ "__name__" := by decide) (hdb : (x == ("__debug__" : Str)) = false := by decide)
    (he : starEach (e :: es) X.env = (false, eval e X.env) :: starEach es X.env := by rfl) (hpl : (backTo pos (starEach es X.env)).any (·.1) = false := by rfl) : DF X Γ (.Call (.Name x p) (e :: es) [] pos) (fB r' t) :=
  ⟨mono_FB l.mono ha.mono, pe_imp (pe_callB hc hg hm hv ha.pa hn hdb he hpl) (FB_lift l ha.mono)⟩
theorem df_callTy {r' : DRF} (hc : CallR X (.type T) r) (l : LRF X.K Γ r' r) (hg : Gl X x) (hm : X.mg x = none) (hv : bootBuiltins x = some (.type T)) (ha : DA X Γ (e :: es) t) (hn : x ≠ "__name__" := by decide) (hdb : (x == ("__debug__" : Str)) = false := by decide)
    (he : starEach (e :: es) X.env = (false, eval e X.env) :: starEach es X.env := by rfl) (hpl : (backTo pos (starEach es X.env)).any (·.1) = false := by rfl) : DF X Γ (.Call (.Name x p) (e :: es) [] pos) (fB r' t) :=
  ⟨mono_FB l.mono ha.mono, pe_imp (pe_callTy hc hg hm hv ha.pa hn hdb he hpl) (FB_lift l ha.mono)⟩
end
end DL

namespace DL
open PySem PySem.Spec PyProof.Rows L2
set_option autoImplicit true

/-! ## views of scalars -/
def asInt : SV → Option Int
  | .d (.int i) => some i
  | _ => none
def asStr : SV → Option Str
  | .d (.str i) => some i
  | _ => none
def asBool : SV → Option Bool
  | .d (.bool i) => some i
  | _ => none
section
variable {K : PySem.W.Frag} {H : Hp} {h : MH} {x y : SV} {v : V}
theorem asInt_ok {i : Int} (r : RV K Γ H h x v) (e : asInt x = some i) : v = .int i := by
  cases x with
  | own a => cases e
  | d x => cases x with
    | int j => cases e; have r' : Dp K (Fz Γ H h) v (.int i) := r; cases r'; rfl
    | _ => cases e
theorem asStr_ok {i : Str} (r : RV K Γ H h x v) (e : asStr x = some i) : v = .str i := by
  cases x with
  | own a => cases e
  | d x => cases x with
    | str j => cases e; have r' : Dp K (Fz Γ H h) v (.str i) := r; cases r'; rfl
    | _ => cases e
theorem asBool_ok {i : Bool} (r : RV K Γ H h x v) (e : asBool x = some i) : v = .bl i := by
  cases x with
  | own a => cases e
  | d x => cases x with
    | bool j => cases e; have r' : Dp K (Fz Γ H h) v (.bool i) := r; cases r'; rfl
    | _ => cases e
theorem rv_int {i : Int} : RV K Γ H h (.d (.int i)) (.int i) := Dp.int i
theorem rv_bl {i : Bool} : RV K Γ H h (.d (.bool i)) (.bl i) := Dp.bl i
theorem rv_str {i : Str} : RV K Γ H h (.d (.str i)) (.str i) := Dp.str i
theorem rv_non : RV K Γ H h (.d .none) .non := Dp.non
end

/-! ## operators on ints -/
def rdI (C : Int → Int → Prop) (g : Int → Int → PyData) : DR2 := fun x y h Q => match asInt x, asInt y with
  | some i, some j => C i j ∧ Q (.d (g i j)) h
  | _, _ => False
def rdI0 (g : Int → Int → PyData) : DR2 := fun x y h Q => match asInt x, asInt y with
  | some i, some j => Q (.d (g i j)) h
  | _, _ => False
section
variable {K : PySem.W.Frag}
theorem lr_I {C : Int → Int → Prop} {g : Int → Int → V} {gd : Int → Int → PyData} (hg : ∀ i j H, Dp K H (g i j) (gd i j)) : LR2 K Γ (rdI C gd) (rI C g) := by
  refine ⟨fun x y h Q Q' k w => ?_, fun x y v u H h C' Q rv ru rm w k => ?_⟩
  · unfold rdI at w ⊢
    split at w
    · exact ⟨w.1, k _ _ w.2⟩
    · exact w
  · unfold rdI at w
    split at w
    · rename_i i j e1 e2
      exact ⟨i, j, asInt_ok rv e1, asInt_ok ru e2, w.1, k (.d (gd i j)) _ _ H PX.refl (hg i j _) rm w.2⟩
    · exact w.elim
theorem lr_I0 {g : Int → Int → V} {gd : Int → Int → PyData} (hg : ∀ i j H, Dp K H (g i j) (gd i j)) : LR2 K Γ (rdI0 gd) (rI0 g) := by
  refine ⟨fun x y h Q Q' k w => ?_, fun x y v u H h C' Q rv ru rm w k => ?_⟩
  · unfold rdI0 at w ⊢
    split at w
    · exact k _ _ w
    · exact w
  · unfold rdI0 at w
    split at w
    · rename_i i j e1 e2
      exact ⟨i, j, asInt_ok rv e1, asInt_ok ru e2, k (.d (gd i j)) _ _ H PX.refl (hg i j _) rm w⟩
    · exact w.elim
abbrev rdSub : DR2 := rdI0 fun i j => .int (i - j)
abbrev rdDiv : DR2 := rdI CDivN fun i j => .int (i.fdiv j)
abbrev rdMod : DR2 := rdI (fun _ j => j ≠ 0) fun i j => .int (i.fmod j)
abbrev rdPow : DR2 := rdI CPow fun i j => .int (i ^ j.toNat)
/-- of two tuples of ints: by the first pair that differs, else by their lengths -/
def cmpT (r : Int → Int → Bool) (z : Bool) : List Int → List Int → Bool
  | x :: xs, y :: ys => if x = y then cmpT r z xs ys else r x y
  | [], _ => z
  | _ :: _, [] => z
def intsD : List PyData → Option (List Int)
  | [] => some []
  | .int i :: r => match intsD r with
    | some ns => some (i :: ns)
    | none => none
  | _ => none
def tupI : SV → Option (List Int)
  | .d (.tuple ds) => intsD ds
  | _ => none
def rdCmp (g : Int → Int → Bool) (z : Nat → Nat → Bool) : DR2 := fun x y h Q => match asInt x, asInt y with
  | some i, some j => Q (.d (.bool (g i j))) h
  | _, _ => match tupI x, tupI y with
    | some ns, some ms => Q (.d (.bool (cmpT g (z ns.length ms.length) ns ms))) h
    | _, _ => False
abbrev rdLt : DR2 := rdCmp (fun i j => decide (i < j)) (fun n m => decide (n < m))
abbrev rdLe : DR2 := rdCmp (fun i j => decide (i ≤ j)) (fun n m => decide (n ≤ m))
abbrev rdGt : DR2 := rdCmp (fun i j => decide (j < i)) (fun n m => decide (n > m))
abbrev rdGe : DR2 := rdCmp (fun i j => decide (j ≤ i)) (fun n m => decide (n ≥ m))
theorem lexAt_shift {e r : Nat → Bool} {z : Bool} : ∀ k i, Ob.lexAt e r z (i + 1) k = Ob.lexAt (fun j => e (j + 1)) (fun j => r (j + 1)) z i k
  | 0, _ => rfl
  | k + 1, i => by rw [Ob.lexAt_succ, Ob.lexAt_succ, lexAt_shift k (i + 1)]
theorem lex_cmp {r : Int → Int → Bool} {z : Bool} : ∀ ns ms : List Int, Ob.lexAt (fun j => decide (ns.getD j 0 = ms.getD j 0)) (fun j => r (ns.getD j 0) (ms.getD j 0)) z 0 (min ns.length ms.length) = cmpT r z ns ms
  | [], ms => by simp [Ob.lexAt, cmpT]
  | x :: xs, [] => by simp [Ob.lexAt, cmpT]
  | x :: xs, y :: ys => by
    have ih := lex_cmp (r := r) (z := z) xs ys
    rw [List.length_cons, List.length_cons, Nat.succ_min_succ, Ob.lexAt_succ, lexAt_shift]
    unfold cmpT
    simp only [List.getD_cons_zero, List.getD_cons_succ, decide_eq_true_eq]
    rw [ih]
def rTc (K : PySem.W.Frag) (r : Int → Int → Bool) (z : Nat → Nat → Bool) : R2 := fun x y H Q => ∃ (a b : Addr) (ns ms : List Int), x = .ref a ∧ y = .ref b ∧ SqT K H a (ns.map V.int) ∧ SqT K H b (ms.map V.int) ∧ Q (.bl (cmpT r (z ns.length ms.length) ns ms)) H
theorem op_tc {X : Cx} {op : CmpOp} {r : Int → Int → Bool} {z : Nat → Nat → Bool} (hC : ∀ v u, compareOp op v u = richCompare op v u) (hu : X.A.units < cLine)
    (hT : ∀ {A : Around} {s : Shared} {l b : Addr} {items items2 : Array Value} {e r : Nat → Bool}, s.heap.IsTuple l items → s.heap.IsTuple b items2 → A.units < cLine → (∀ j (h1 : j < items.size) (h2 : j < items2.size), SeqAt.EqAt A.in1 s items[j] items2[j] (e j)) →
      (∀ j (h1 : j < items.size) (h2 : j < items2.size), e j = false → Ob.RcOp op A.in1 s items[j] items2[j] (r j)) → Ob.RcOp op A s (.ref l) (.ref b) (Ob.lexAt e r (z items.size items2.size) 0 (min items.size items2.size)))
    (hI : ∀ {A : Around} {s : Shared} (a b : Int) (t u : Tok), Ob.RcOp op A s (.int a t) (.int b u) (r a b)) : OpR X (compareOp op) (rTc X.K r z) := by
  intro pins s σ H x y v u Q I rx ry h
  obtain ⟨a, b, ns, ms, rfl, rfl, ha, hb, q⟩ := h
  cases rx
  cases ry
  obtain ⟨its, r1, p1, _⟩ := I.tuple ha
  obtain ⟨its2, r2, p2, _⟩ := I.tuple hb
  have i1 : IntsAre its ns := Vals.ints r1
  have i2 : IntsAre its2 ms := Vals.ints r2
  have e1 : its.toArray.size = ns.length := by rw [List.size_toArray]; exact i1.length
  have e2 : its2.toArray.size = ms.length := by rw [List.size_toArray]; exact i2.length
  have at1 : ∀ j (h1 : j < its.toArray.size), ∃ t, its.toArray[j] = .int (ns.getD j 0) t := fun j h1 => PyProof.Rows.IntsAre.int_at i1 _ _ (by simp at h1; simp [h1])
  have at2 : ∀ j (h1 : j < its2.toArray.size), ∃ t, its2.toArray[j] = .int (ms.getD j 0) t := fun j h1 => PyProof.Rows.IntsAre.int_at i2 _ _ (by simp at h1; simp [h1])
  have R := hT (A := X.A) (s := s) (e := fun j => decide (ns.getD j 0 = ms.getD j 0)) (r := fun j => r (ns.getD j 0) (ms.getD j 0)) p1 p2 hu (fun j h1 h2 => by
    obtain ⟨t, et⟩ := at1 j h1
    obtain ⟨t', et'⟩ := at2 j h2
    rw [et, et']
    have z : (ns.getD j 0 == ms.getD j 0) = decide (ns.getD j 0 = ms.getD j 0) := by
      by_cases q : ns.getD j 0 = ms.getD j 0
      · rw [decide_eq_true q]; exact beq_iff_eq.mpr q
      · rw [decide_eq_false q]; exact beq_eq_false_iff_ne.mpr q
    rw [← z]
    exact SeqAt.EqAt.int_int _ _ _ _) (fun j h1 h2 _ => by
    obtain ⟨t, et⟩ := at1 j h1
    obtain ⟨t', et'⟩ := at2 j h2
    rw [et, et']
    exact hI _ _ _ _)
  rw [e1, e2, lex_cmp] at R
  rw [hC]
  exact R X.prog X.w X.xe (EP X pins σ Q) ⟨.bl _, H, I, rfl, q⟩
def rCmpG (K : PySem.W.Frag) (g : Int → Int → Bool) (z : Nat → Nat → Bool) : R2 := fun x y H Q => rI0 (fun i j => .bl (g i j)) x y H Q ∨ rTc K g z x y H Q
theorem op_ltG {X : Cx} (hu : X.A.units + 1 < cLine) : OpR X (compareOp .Lt) (rCmpG X.K (fun i j => decide (i < j)) (fun n m => decide (n < m))) := OpR.or op_lt (op_tc (fun _ _ => rfl) (by omega) (fun p q hu he hr => Ob.RcOp.tuples_lt p q hu he hr) (fun a b t u => Ob.RcOp.lt_int a b t u))
theorem op_leG {X : Cx} (hu : X.A.units + 1 < cLine) : OpR X (compareOp .LtE) (rCmpG X.K (fun i j => decide (i ≤ j)) (fun n m => decide (n ≤ m))) := OpR.or op_le (op_tc (fun _ _ => rfl) (by omega) (fun p q hu he hr => Ob.RcOp.tuples_le p q hu he hr) (fun a b t u => Ob.RcOp.le_int a b t u))
theorem op_gtG {X : Cx} (hu : X.A.units + 1 < cLine) : OpR X (compareOp .Gt) (rCmpG X.K (fun i j => decide (j < i)) (fun n m => decide (n > m))) := OpR.or op_gt (op_tc (fun _ _ => rfl) (by omega) (fun p q hu he hr => Ob.RcOp.tuples_gt p q hu he hr) (fun a b t u => Ob.RcOp.gt_int a b t u))
theorem op_geG {X : Cx} (hu : X.A.units + 1 < cLine) : OpR X (compareOp .GtE) (rCmpG X.K (fun i j => decide (j ≤ i)) (fun n m => decide (n ≥ m))) := OpR.or op_ge (op_tc (fun _ _ => rfl) (by omega) (fun p q hu he hr => Ob.RcOp.tuples_ge p q hu he hr) (fun a b t u => Ob.RcOp.ge_int a b t u))
theorem intsD_ok {F : Hp} : ∀ {ds : List PyData} {vs : List V} {ns : List Int}, DpAll K F vs ds → intsD ds = some ns → vs = ns.map V.int
  | [], _, _, r, e => by cases r; cases e; rfl
  | d :: ds, _, ns, r, e => by
    cases r with
    | cons h1 h2 =>
      cases d with
      | int i =>
        unfold intsD at e
        cases q : intsD ds with
        | none => rw [q] at e; cases e
        | some ms =>
          rw [q] at e
          cases e
          cases h1
          rw [intsD_ok h2 q]
          rfl
      | _ => cases e
theorem tupI_ok {H : Hp} {h : MH} {x : SV} {v : V} {ns : List Int} (r : RV K Γ H h x v) (e : tupI x = some ns) : ∃ a, v = .ref a ∧ SqT K H a (ns.map V.int) := by
  cases x with
  | own _ => cases e
  | d x =>
    cases x with
    | tuple ds =>
      have r' : Dp K (Fz Γ H h) v (.tuple ds) := r
      cases r' with
      | @tup a vs _ h1 h2 =>
        rw [intsD_ok h2 e] at h1
        exact ⟨a, rfl, sqT_up fz_sub h1⟩
    | _ => cases e
theorem lr_cmp {g : Int → Int → Bool} {z : Nat → Nat → Bool} : LR2 K Γ (rdCmp g z) (rCmpG K g z) := by
  refine ⟨fun x y h Q Q' k w => ?_, fun x y v u H h C' Q rv ru rm w k => ?_⟩
  · unfold rdCmp at w ⊢
    split at w
    · exact k _ _ w
    · split at w
      · exact k _ _ w
      · exact w
  · unfold rdCmp at w
    split at w
    · rename_i i j e1 e2
      exact .inl ⟨i, j, asInt_ok rv e1, asInt_ok ru e2, k _ _ _ H PX.refl rv_bl rm w⟩
    · split at w
      · rename_i ns ms e1 e2
        obtain ⟨a, ea, sa⟩ := tupI_ok rv e1
        obtain ⟨b, eb, sb⟩ := tupI_ok ru e2
        exact .inr ⟨a, b, ns, ms, ea, eb, sa, sb, k _ _ _ H PX.refl rv_bl rm w⟩
      · exact w.elim
theorem lr_sub : LR2 K Γ rdSub (rI0 fun i j => .int (i - j)) := lr_I0 fun _ _ _ => .int _
theorem lr_div : LR2 K Γ rdDiv (rI CDivN fun i j => .int (i.fdiv j)) := lr_I fun _ _ _ => .int _
theorem lr_mod : LR2 K Γ rdMod (rI (fun _ j => j ≠ 0) fun i j => .int (i.fmod j)) := lr_I fun _ _ _ => .int _
theorem lr_pow : LR2 K Γ rdPow (rI CPow fun i j => .int (i ^ j.toNat)) := lr_I fun _ _ _ => .int _
theorem lr_lt : LR2 K Γ rdLt (rCmpG K (fun i j => decide (i < j)) (fun n m => decide (n < m))) := lr_cmp
theorem lr_le : LR2 K Γ rdLe (rCmpG K (fun i j => decide (i ≤ j)) (fun n m => decide (n ≤ m))) := lr_cmp
theorem lr_gt : LR2 K Γ rdGt (rCmpG K (fun i j => decide (j < i)) (fun n m => decide (n > m))) := lr_cmp
theorem lr_ge : LR2 K Γ rdGe (rCmpG K (fun i j => decide (j ≤ i)) (fun n m => decide (n ≥ m))) := lr_cmp
end

/-! ## + of everything -/
def rCatG (K : PySem.W.Frag) : R2 := fun x y H Q => ∃ a b xs ys, x = .ref a ∧ y = .ref b ∧ SqL K H a xs ∧ SqL K H b ys ∧ xs.length + ys.length ≤ sizeLine ∧ ∀ p, H p = none → Q (.ref p) (upd H p (.lst (xs ++ ys)))
theorem op_catG {X : Cx} : OpR X (binaryOp .Add) (rCatG X.K) := by
  intro pins s σ H x y v u Q I rx ry w
  obtain ⟨a, b, xs, ys, rfl, rfl, ha, hb, hz, q⟩ := w
  cases rx
  cases ry
  obtain ⟨i1, r1, ⟨⟨c1, d1, t1, l1⟩, n1, o1, k1, _, e1⟩, _⟩ := I.list ha
  obtain ⟨i2, r2, ⟨⟨c2, d2, t2, l2⟩, n2, o2, k2, _, e2⟩, _⟩ := I.list hb
  simp only at k1 e1 k2 e2
  subst k1 e1 k2 e2
  have f1 := r1.length
  have f2 := r2.length
  have ee : i1.toArray ++ i2.toArray = (i1 ++ i2).toArray := by simp
  refine concat_meets ⟨_, o1, rfl⟩ ⟨_, o2, rfl⟩ noFill_list_add seq_list_add PySem.F.slot_list_add PySem.F.entry_list_add (PySem.F.args_list_add_2 _ _)
    (list_addW a b i1.toArray i2.toArray n1 n2 d1 d2 l1 l2 (by simp only [List.size_toArray]; omega)) ⟨o1, o2, ?_⟩
  rw [ee]
  exact ⟨.ref _, _, I.lnew (t' := s.toks) (r1.append r2) (by rw [List.length_append]; omega), rfl, q _ I.fresh⟩
def rStrCat : R2 := fun x y H Q => ∃ i j, x = .str i ∧ y = .str j ∧ i.length + j.length ≤ sizeLine ∧ Q (.str (i ++ j)) H
def rAddAll (K : PySem.W.Frag) : R2 := fun x y H Q => rI0 (fun i j => .int (i + j)) x y H Q ∨ rStrCat x y H Q ∨ rCatA K x y H Q ∨ rCatG K x y H Q
theorem op_addAll {X : Cx} : OpR X (binaryOp .Add) (rAddAll X.K) := op_add.or (OpR.or op_add_str (OpR.or op_catA op_catG))
def rdAdd : DR2 := fun x y h Q => match asInt x, asInt y with
  | some i, some j => Q (.d (.int (i + j))) h
  | _, _ => match asStr x, asStr y with
    | some a, some b => a.length + b.length ≤ sizeLine ∧ Q (.d (.str (a ++ b))) h
    | _, _ => match asT x, asT y with
      | some a, some b => a.length + b.length ≤ sizeLine ∧ Q (.d (.tuple (a ++ b))) h
      | _, _ => match asL h x, asL h y with
        | some a, some b => a.length + b.length ≤ sizeLine ∧ Q (.d (.list (a ++ b))) h
        | _, _ => False
theorem dps_nil {K : PySem.W.Frag} {H : Hp} {vs : List V} (h : DpAll K H vs []) : vs = [] := by cases h; rfl
theorem dps_nil' {K : PySem.W.Frag} {H : Hp} {ds : List PyData} (h : DpAll K H [] ds) : ds = [] := by cases h; rfl
theorem lr_add {K : PySem.W.Frag} : LR2 K Γ rdAdd (rAddAll K) := by
  refine ⟨fun x y h Q Q' k w => ?_, fun x y v u H h C' Q rv ru rm w k => ?_⟩
  · unfold rdAdd at w ⊢
    split at w
    · exact k _ _ w
    · split at w
      · exact ⟨w.1, k _ _ w.2⟩
      · split at w
        · exact ⟨w.1, k _ _ w.2⟩
        · split at w
          · exact ⟨w.1, k _ _ w.2⟩
          · exact w
  · unfold rdAdd at w
    split at w
    · rename_i i j e1 e2
      exact .inl ⟨i, j, asInt_ok rv e1, asInt_ok ru e2, k _ _ _ H PX.refl rv_int rm w⟩
    · split at w
      · rename_i i j e1 e2
        exact .inr (.inl ⟨i, j, asStr_ok rv e1, asStr_ok ru e2, w.1, k _ _ _ H PX.refl rv_str rm w.2⟩)
      · split at w
        · rename_i i j e1 e2
          obtain ⟨a, xs, rfl, s1, d1⟩ := asT_ok rv e1
          obtain ⟨b, ys, rfl, s2, d2⟩ := asT_ok ru e2
          refine .inr (.inr (.inl ⟨a, b, xs, ys, rfl, rfl, s1, s2, by rw [dps_len d1, dps_len d2]; exact w.1, fun z => ?_, fun z1 z2 => ?_, fun z1 z2 p hp => ?_⟩))
          · subst z
            have z := dps_nil' d1
            subst z
            cases x with
            | own _ => cases e1
            | d x => cases x with
              | tuple xs =>
                cases e1
                cases y with
                | own _ => cases e2
                | d y => cases y with
                  | tuple ys => cases e2; exact k _ _ _ H PX.refl ru rm w.2
                  | _ => cases e2
              | _ => cases e1
          · subst z2
            have z := dps_nil' d2
            subst z
            cases x with
            | own _ => cases e1
            | d x => cases x with
              | tuple xs =>
                cases e1
                have w2 := w.2
                rw [List.append_nil] at w2
                exact k _ _ _ H PX.refl rv rm w2
              | _ => cases e1
          · obtain ⟨p1, r1, v1⟩ := new_tup hp rm (dps_app d1 d2)
            exact k _ _ _ _ p1 v1 r1 w.2
        · split at w
          · rename_i i j e1 e2
            obtain ⟨a, xs, rfl, s1, d1⟩ := asL_ok rv rm e1
            obtain ⟨b, ys, rfl, s2, d2⟩ := asL_ok ru rm e2
            refine .inr (.inr (.inr ⟨a, b, xs, ys, rfl, rfl, s1, s2, by rw [dps_len d1, dps_len d2]; exact w.1, fun p hp => ?_⟩))
            obtain ⟨p1, r1, v1⟩ := new_list hp rm (dps_app d1 d2)
            exact k _ _ _ _ p1 v1 r1 w.2
          · exact w.elim

/-! ## * : ints, a list by an int -/
def rRepG (K : PySem.W.Frag) : R2 := fun x y H Q => ∃ l k xs, x = .ref l ∧ y = .int k ∧ SqL K H l xs ∧ -(2 ^ 63) ≤ k ∧ k < 2 ^ 63 ∧ xs.length * k.toNat ≤ sizeLine ∧ ∀ p, H p = none → Q (.ref p) (upd H p (.lst (List.replicate k.toNat xs).flatten))
theorem op_repG {X : Cx} : OpR X (binaryOp .Mult) (rRepG X.K) := by
  intro pins s σ H x y v u Q I rx ry w
  obtain ⟨l, k, xs, rfl, rfl, hl, b1, b2, hz, q⟩ := w
  cases rx
  obtain ⟨t, rfl⟩ := ry
  obtain ⟨i1, r1, ⟨⟨c1, d1, t1, l1⟩, n1, o1, k1, _, e1⟩, _⟩ := I.list hl
  simp only at k1 e1
  subst k1 e1
  have f1 := r1.length
  have hz' : i1.toArray.size * k.toNat ≤ 2 ^ 24 := by
    rw [List.size_toArray, ← f1]
    exact hz
  refine wpAny_binaryOp_repeat_ref (T := "list") (U := "int") (by decide) ⟨_, o1, rfl⟩ (fun s' => typeIs_int s' k t) noFill_list_mul PySem.F.fills_int_mul PySem.F.slot_int_rmul repeat_list PySem.F.slot_int_index.lookup
    (call_meets PySem.F.slot_int_rmul (typeIs_int s k t) PySem.F.entry_int_rmul (PySem.F.args_int_rmul_2 _ _) (lm_int_rmul_list_any k t l i1.toArray n1 d1 l1)
      ⟨o1, rfl, ⟨_, o1, rfl⟩, call_meets PySem.F.slot_list_mul ⟨_, o1, rfl⟩ PySem.F.entry_list_mul (PySem.F.args_list_mul_2 _ _)
        (lm_list_mul_any l i1.toArray n1 d1 l1 k t (by simp [Builtin.List.listFitsIndex]; omega) (by omega) (by simp [Builtin.List.listTooLong, sizeLine]; simp at hz'; omega)) ⟨o1, ?_⟩⟩)
  rw [listMul_foldl_if]
  exact ⟨.ref _, _, I.lnew (t' := s.toks) (r1.rep k.toNat) (by rw [lm_len_rep_flat, Nat.mul_comm]; exact hz), rfl, q _ I.fresh⟩
def rMulAll (K : PySem.W.Frag) : R2 := fun x y H Q => rI CMul (fun i j => .int (i * j)) x y H Q ∨ rRepG K x y H Q
theorem op_mulAll {X : Cx} : OpR X (binaryOp .Mult) (rMulAll X.K) := op_mul.or op_repG
def rdMul : DR2 := fun x y h Q => match asInt y with
  | some j => match asInt x with
    | some i => CMul i j ∧ Q (.d (.int (i * j))) h
    | none => match asL h x with
      | some a => -(2 ^ 63) ≤ j ∧ j < 2 ^ 63 ∧ a.length * j.toNat ≤ sizeLine ∧ Q (.d (.list (List.replicate j.toNat a).flatten)) h
      | none => False
  | none => False
theorem lr_mul {K : PySem.W.Frag} : LR2 K Γ rdMul (rMulAll K) := by
  refine ⟨fun x y h Q Q' k w => ?_, fun x y v u H h C' Q rv ru rm w k => ?_⟩
  · unfold rdMul at w ⊢
    split at w
    · split at w
      · exact ⟨w.1, k _ _ w.2⟩
      · split at w
        · exact ⟨w.1, w.2.1, w.2.2.1, k _ _ w.2.2.2⟩
        · exact w
    · exact w
  · unfold rdMul at w
    split at w
    · rename_i j e2
      split at w
      · rename_i i e1
        exact .inl ⟨i, j, asInt_ok rv e1, asInt_ok ru e2, w.1, k _ _ _ H PX.refl rv_int rm w.2⟩
      · split at w
        · rename_i a e1
          obtain ⟨l, xs, rfl, s1, d1⟩ := asL_ok rv rm e1
          refine .inr ⟨l, j, xs, rfl, asInt_ok ru e2, s1, w.1, w.2.1, by rw [dps_len d1]; exact w.2.2.1, fun p hp => ?_⟩
          obtain ⟨p1, r1, v1⟩ := new_list hp rm (dps_rep d1 j.toNat)
          exact k _ _ _ _ p1 v1 r1 w.2.2.2
        · exact w.elim
    · exact w.elim

/-! ## ==, != of data -/
/-- data as a whole: what is one's own is looked through -/
def asD (h : MH) (x : SV) : Option PyData := match x with
  | .d d => some d
  | .own a => match h a with
    | some (.lst xs) => some (.list xs)
    | _ => none
theorem asD_ok {K : PySem.W.Frag} {H : Hp} {h : MH} {x : SV} {v : V} {d : PyData} (rv : RV K Γ H h x v) (rm : RM K Γ H h) (e : asD h x = some d) : Dp K H v d := by
  cases x with
  | d y => cases e; exact dp_up fz_sub _ _ rv
  | own a =>
    cases q : h a with
    | none => simp only [asD, q] at e; cases e
    | some m =>
      cases m with
      | lst xs =>
        simp only [asD, q] at e; cases e
        obtain ⟨vs, e1, e2⟩ := rm.ob a _ q
        have rv' : v = .ref a := rv
        subst rv'
        exact .lst (SqL.of e1) (dps_up fz_sub _ _ e2)
      | _ => simp only [asD, q] at e; cases e
def strs2 (d e : PyData) : Bool := match d, e with
  | .str _, .str _ => true
  | _, _ => false
/-- plain data of few levels, or two texts -/
def eqOk (d e : PyData) : Prop := (SeqAt.shaped d = true ∧ SeqAt.shaped e = true) ∨ strs2 d e = true
def rdEq : DR2 := fun x y h Q => match asD h x, asD h y with
  | some d, some e => eqOk d e ∧ Q (.d (.bool (PyData.eqv d e))) h
  | _, _ => False
def rdNe : DR2 := fun x y h Q => match asD h x, asD h y with
  | some d, some e => eqOk d e ∧ Q (.d (.bool (!PyData.eqv d e))) h
  | _, _ => False
def rEqA (K : PySem.W.Frag) : R2 := fun x y H Q => rEqD K x y H Q ∨ rEq x y H Q
def rNeA (K : PySem.W.Frag) : R2 := fun x y H Q => rNeD K x y H Q ∨ rNe x y H Q
theorem op_eqA {X : Cx} (hu : X.A.units + 64 < cLine) : OpR X (compareOp .Eq) (rEqA X.K) := OpR.or (op_eqD hu) op_eq
theorem op_neA {X : Cx} (hu : X.A.units + 64 < cLine) : OpR X (compareOp .NotEq) (rNeA X.K) := OpR.or (op_neD hu) op_ne
theorem strs2_ok {K : PySem.W.Frag} {H : Hp} {v u : V} {d e : PyData} (h : strs2 d e = true) (r1 : Dp K H v d) (r2 : Dp K H u e) : scal v u = true ∧ decide (v = u) = PyData.eqv d e := by
  cases d <;> cases e <;> first | (cases h; done) | (cases r1; cases r2; exact ⟨rfl, by rw [dec_str]; simp only [PyData.eqv]⟩)
section
variable {K : PySem.W.Frag}
theorem lr_eq : LR2 K Γ rdEq (rEqA K) := by
  refine ⟨fun x y h Q Q' k w => ?_, fun x y v u H h C' Q rv ru rm w k => ?_⟩
  · unfold rdEq at w ⊢
    split at w
    · exact ⟨w.1, k _ _ w.2⟩
    · exact w
  · unfold rdEq at w
    split at w
    · rename_i d e e1 e2
      rcases w.1 with z | z
      · exact .inl ⟨d, e, asD_ok rv rm e1, asD_ok ru rm e2, z.1, z.2, k _ _ _ H PX.refl rv_bl rm w.2⟩
      · obtain ⟨z1, z2⟩ := strs2_ok z (asD_ok rv rm e1) (asD_ok ru rm e2)
        exact .inr ⟨z1, by rw [z2]; exact k _ _ _ H PX.refl rv_bl rm w.2⟩
    · exact w.elim
theorem lr_ne : LR2 K Γ rdNe (rNeA K) := by
  refine ⟨fun x y h Q Q' k w => ?_, fun x y v u H h C' Q rv ru rm w k => ?_⟩
  · unfold rdNe at w ⊢
    split at w
    · exact ⟨w.1, k _ _ w.2⟩
    · exact w
  · unfold rdNe at w
    split at w
    · rename_i d e e1 e2
      rcases w.1 with z | z
      · exact .inl ⟨d, e, asD_ok rv rm e1, asD_ok ru rm e2, z.1, z.2, k _ _ _ H PX.refl rv_bl rm w.2⟩
      · obtain ⟨z1, z2⟩ := strs2_ok z (asD_ok rv rm e1) (asD_ok ru rm e2)
        exact .inr ⟨z1, by rw [z2]; exact k _ _ _ H PX.refl rv_bl rm w.2⟩
    · exact w.elim

/-! ## is None, is True -/
def isNone : SV → Bool
  | .d .none => true
  | _ => false
theorem isNone_ok {H : Hp} {h : MH} {x : SV} {v : V} (rv : RV K Γ H h x v) : decide (v = .non) = isNone x := by
  cases x with
  | own a => have rv' : v = .ref a := rv; subst rv'; simp [isNone]
  | d x =>
    have rv' : Dp K (Fz Γ H h) v x := rv
    cases rv' <;> simp [isNone]
def rdIsN : DR2 := fun x y h Q => isNone y = true ∧ Q (.d (.bool (isNone x))) h
def rdNotN : DR2 := fun x y h Q => isNone y = true ∧ Q (.d (.bool (!isNone x))) h
theorem lr_isN : LR2 K Γ rdIsN (fun x y H Q => y = .non ∧ Q (.bl (decide (x = .non))) H) := by
  refine ⟨fun x y h Q Q' k w => ⟨w.1, k _ _ w.2⟩, fun x y v u H h C' Q rv ru rm w k => ⟨?_, ?_⟩⟩
  · have z := isNone_ok ru
    rw [w.1] at z
    exact of_decide_eq_true z
  · rw [isNone_ok rv]
    exact k _ _ _ H PX.refl rv_bl rm w.2
theorem lr_notN : LR2 K Γ rdNotN (fun x y H Q => y = .non ∧ Q (.bl (!decide (x = .non))) H) := by
  refine ⟨fun x y h Q Q' k w => ⟨w.1, k _ _ w.2⟩, fun x y v u H h C' Q rv ru rm w k => ⟨?_, ?_⟩⟩
  · have z := isNone_ok ru
    rw [w.1] at z
    exact of_decide_eq_true z
  · rw [isNone_ok rv]
    exact k _ _ _ H PX.refl rv_bl rm w.2

/-! ## what is one's own, but lists of data -/
def ownO (h : MH) : SV → Option (Addr × MO)
  | .own a => match h a with
    | some (.lst _) => none
    | some o => some (a, o)
    | none => none
  | .d _ => none
theorem ownO_ok {h : MH} {x : SV} {a : Addr} {o : MO} (e : ownO h x = some (a, o)) : x = .own a ∧ h a = some o := by
  cases x with
  | d _ => cases e
  | own b =>
    unfold ownO at e
    cases q : h b with
    | none => simp only [q] at e; cases e
    | some m => cases m <;> simp only [q] at e <;> cases e <;> exact ⟨rfl, q⟩
theorem ownO_asL {h : MH} {x : SV} {xs : List PyData} (e : asL h x = some xs) : ownO h x = none := by
  cases x with
  | d _ => rfl
  | own b =>
    cases q : h b with
    | none => simp only [ownO, q]
    | some m => cases m <;> first | (simp only [ownO, q]; done) | (simp only [asL, q] at e; cases e)
theorem ownO_asQ {h : MH} {x : SV} {xs : List PyData} (e : asQ h x = some xs) : ownO h x = none := by
  cases x with
  | d _ => rfl
  | own b =>
    unfold asQ at e
    cases q : asL h (.own b) with
    | some ys => exact ownO_asL q
    | none => rw [q] at e; cases e
def keyP : PyData → Option Key
  | .int i => some (.inl i)
  | .str z => some (.inr z)
  | _ => none
def asKey : SV → Option Key
  | .d d => keyP d
  | .own _ => none
def valS {κ : Type} [DecidableEq κ] (ps : List (κ × SV)) (k : κ) : Option SV := (ps.find? fun kv => decide (kv.1 = k)).map (·.2)
def putS {κ : Type} [DecidableEq κ] (ps : List (κ × SV)) (k : κ) (v : SV) : List (κ × SV) :=
  if (ps.any fun kv => decide (kv.1 = k)) = true then ps.map (fun kv => if kv.1 = k then (kv.1, v) else kv) else ps ++ [(k, v)]
def dropS {κ : Type} [DecidableEq κ] (ps : List (κ × SV)) (k : κ) : List (κ × SV) := ps.filter fun kv => decide (kv.1 ≠ k)
theorem asKey_ok {K : PySem.W.Frag} {Γ : GI} {H : Hp} {h : MH} {x : SV} {v : V} {k : Key} (r : RV K Γ H h x v) (e : asKey x = some k) : v = kV k := by
  cases x with
  | own _ => cases e
  | d d =>
    cases d with
    | int i => cases e; cases r; rfl
    | str z => cases e; cases r; rfl
    | _ => cases e
theorem valS_ok {κ : Type} [DecidableEq κ] {K : PySem.W.Frag} {F : Hp} {k : κ} : ∀ {ps : List (κ × SV)} {kvs : List (κ × V)}, Paired (RPF K F) ps kvs → (∀ z, valS ps k = some z → ∃ v, valV kvs k = some v ∧ RVF K F z v) ∧ (valS ps k = none → valV kvs k = none)
  | _, _, .nil => ⟨fun z e => (by cases e), fun _ => rfl⟩
  | (x, y) :: ps, (x', v) :: kvs, .cons h t => by
    obtain ⟨e1, e2⟩ := h
    have e1' : x = x' := e1
    subst e1'
    by_cases q : x = k
    · have a : valS ((x, y) :: ps) k = some y := by simp [valS, List.find?_cons, q]
      rw [a, valV_pos (p := (x, v)) q]
      exact ⟨fun z e => (by cases e; exact ⟨v, rfl, e2⟩), fun e => (by cases e)⟩
    · have a : valS ((x, y) :: ps) k = valS ps k := by simp [valS, List.find?_cons, q]
      rw [a, valV_neg (p := (x, v)) q]
      exact valS_ok t
theorem anyS_ok {κ : Type} [DecidableEq κ] {K : PySem.W.Frag} {F : Hp} {k : κ} : ∀ {ps : List (κ × SV)} {kvs : List (κ × V)}, Paired (RPF K F) ps kvs → (ps.any fun kv => decide (kv.1 = k)) = (kvs.any fun kv => decide (kv.1 = k))
  | _, _, .nil => rfl
  | _ :: _, _ :: _, .cons h t => by rw [List.any_cons, List.any_cons, anyS_ok t, h.1]
theorem pairs_len {α β : Type} {R : α → β → Prop} : ∀ {l : List α} {m : List β}, Paired R l m → l.length = m.length
  | _, _, .nil => rfl
  | _, _, .cons _ t => by simp [pairs_len t]
theorem pairs_snoc {α β : Type} {R : α → β → Prop} {a : α} {b : β} (r : R a b) : ∀ {l : List α} {m : List β}, Paired R l m → Paired R (l ++ [a]) (m ++ [b])
  | _, _, .nil => .cons r .nil
  | _, _, .cons h t => .cons h (pairs_snoc r t)
theorem pairs_app {α β : Type} {R : α → β → Prop} {l2 : List α} {m2 : List β} (r : Paired R l2 m2) : ∀ {l : List α} {m : List β}, Paired R l m → Paired R (l ++ l2) (m ++ m2)
  | _, _, .nil => r
  | _, _, .cons h t => .cons h (pairs_app r t)
theorem putS_ok {κ : Type} [DecidableEq κ] {K : PySem.W.Frag} {F : Hp} {k : κ} {z : SV} {v : V} {ps : List (κ × SV)} {kvs : List (κ × V)} (r : Paired (RPF K F) ps kvs) (rz : RVF K F z v) : Paired (RPF K F) (putS ps k z) (putK kvs k v) := by
  unfold putS putK
  rw [anyS_ok r]
  split
  · rename_i hany
    clear hany
    induction r with
    | nil => exact .nil
    | @cons p q ps kvs h t ih =>
      refine .cons ?_ ih
      show RPF K F (if p.1 = k then (p.1, z) else p) (if q.1 = k then (q.1, v) else q)
      by_cases e : p.1 = k
      · rw [if_pos e, if_pos (h.1 ▸ e)]; exact ⟨h.1, rz⟩
      · rw [if_neg e, if_neg (h.1 ▸ e)]; exact h
  · exact pairs_snoc ⟨rfl, rz⟩ r
theorem dropS_ok {κ : Type} [DecidableEq κ] {K : PySem.W.Frag} {F : Hp} {k : κ} {ps : List (κ × SV)} {kvs : List (κ × V)} (r : Paired (RPF K F) ps kvs) : Paired (RPF K F) (dropS ps k) (dropK kvs k) := by
  induction r with
  | nil => exact .nil
  | @cons p q ps kvs h t ih =>
    unfold dropS dropK at ih ⊢
    rw [List.filter_cons, List.filter_cons, h.1]
    split
    · exact .cons h ih
    · exact ih
theorem pairs_get {α β : Type} {R : α → β → Prop} : ∀ {l : List α} {m : List β} {i : Nat} {a : α}, Paired R l m → l[i]? = some a → ∃ b, m[i]? = some b ∧ R a b
  | _, _, _, _, .nil, e => by simp at e
  | _, _, 0, _, .cons h _, e => by simp at e; subst e; exact ⟨_, rfl, h⟩
  | _, _, i + 1, a, .cons _ t, e => by
    obtain ⟨b, e1, e2⟩ := pairs_get (i := i) (a := a) t (by simpa using e)
    exact ⟨b, by simpa using e1, e2⟩
theorem pairs_at {α β : Type} {R : α → β → Prop} {l : List α} {m : List β} {i : Int} {a : α} (r : Paired R l m) (e : atI l i = some a) : ∃ b, atI m i = some b ∧ R a b := by
  unfold atI at e ⊢
  rw [← pairs_len r]
  cases q : ixN l.length i with
  | none => rw [q] at e; cases e
  | some j =>
    rw [q] at e
    exact pairs_get r e
/-- what a subscript finds in what is one's own -/
def ixO (o : MO) (y : SV) : Option SV := match o with
  | .seq xs => match asInt y with
    | some i => atI xs i
    | none => none
  | .tpl xs => match asInt y with
    | some i => atI xs i
    | none => none
  | .dct ps => match asKey y with
    | some k => valS ps k
    | none => none
  | _ => none

/-! ## in, not in: lists of data, dicts -/
def inO (o : MO) (x : SV) : Option Bool := match o with
  | .dct ps => match asKey x with
    | some k => some (valS ps k).isSome
    | none => none
  | _ => none
def rdInL : DR2 := fun x y h Q => match ownO h y with
  | some p => match inO p.2 x with
    | some b => Q (.d (.bool b)) h
    | none => False
  | none => match asD h x, asL h y with
    | some d, some ds => SeqAt.shaped d = true ∧ SeqAt.shaped (.list ds) = true ∧ Q (.d (.bool (ds.any fun z => PyData.eqv z d))) h
    | _, _ => False
def rdNotInL : DR2 := fun x y h Q => match ownO h y with
  | some p => match inO p.2 x with
    | some b => Q (.d (.bool (!b))) h
    | none => False
  | none => match asD h x, asL h y with
    | some d, some ds => SeqAt.shaped d = true ∧ SeqAt.shaped (.list ds) = true ∧ Q (.d (.bool (!ds.any fun z => PyData.eqv z d))) h
    | _, _ => False
theorem asL_D {h : MH} {y : SV} {ds : List PyData} (e : asL h y = some ds) : asD h y = some (.list ds) := by
  cases y with
  | own a =>
    cases q : h a with
    | none => simp only [asL, q] at e; cases e
    | some m => cases m with
      | lst xs => simp only [asL, q] at e; cases e; simp only [asD, q]
      | _ => simp only [asL, q] at e; cases e
  | d y => cases y with
    | list xs => cases e; rfl
    | _ => cases e
def rInDc : R2 := fun x y H Q => ∃ a o, y = .ref a ∧ DGet H a x o ∧ Q (.bl o.isSome) H
def rNotInDc : R2 := fun x y H Q => ∃ a o, y = .ref a ∧ DGet H a x o ∧ Q (.bl (!o.isSome)) H
def rInG (K : PySem.W.Frag) : R2 := fun x y H Q => rInD K x y H Q ∨ rInDc x y H Q
def rNotInG (K : PySem.W.Frag) : R2 := fun x y H Q => rNotInD K x y H Q ∨ rNotInDc x y H Q
theorem op_inDc {X : Cx} (hu : X.A.units + 1 < cLine) : OpR X (compareOp .In) rInDc := by
  intro pins s σ H x y v u Q I rx ry ⟨a, o, e, g, q⟩
  subst e
  obtain rfl : u = Value.ref a := ry
  exact d_in hu I g rx fun s3 I3 => ⟨.bl o.isSome, H, I3, rfl, q⟩
theorem op_notInDc {X : Cx} (hu : X.A.units + 1 < cLine) : OpR X (compareOp .NotIn) rNotInDc := by
  intro pins s σ H x y v u Q I rx ry ⟨a, o, e, g, q⟩
  subst e
  obtain rfl : u = Value.ref a := ry
  exact d_notIn hu I g rx fun s3 I3 => ⟨.bl (!o.isSome), H, I3, rfl, q⟩
theorem op_inG {X : Cx} (hu : X.A.units + 65 < cLine) : OpR X (compareOp .In) (rInG X.K) := OpR.or (op_inD hu) (op_inDc (by omega))
theorem op_notInG {X : Cx} (hu : X.A.units + 65 < cLine) : OpR X (compareOp .NotIn) (rNotInG X.K) := OpR.or (op_notInD hu) (op_notInDc (by omega))
theorem inO_ok {K : PySem.W.Frag} {Γ : GI} {H : Hp} {h : MH} {x y : SV} {u v : V} {p : Addr × MO} {b : Bool} (rm : RM K Γ H h) (rx : RV K Γ H h x u) (ry : RV K Γ H h y v) (e : ownO h y = some p) (e2 : inO p.2 x = some b) :
    ∃ o : Option V, v = .ref p.1 ∧ DGet H p.1 u o ∧ o.isSome = b := by
  obtain ⟨ex, ea⟩ := ownO_ok e
  subst ex
  have ev : v = .ref p.1 := ry
  obtain ⟨u0, f1, f2⟩ := ro_at (rm.ob _ _ ea)
  unfold inO at e2
  split at e2
  · rename_i ps hq
    rw [hq] at f2
    split at e2
    · rename_i k e3
      cases e2
      cases u0 <;> first | exact f2.elim | skip
      rename_i kvs
      refine ⟨valV kvs k, ev, ?_, ?_⟩
      · rw [asKey_ok rx e3]; exact DGet.k f1
      · cases q : valS ps k with
        | none => rw [(valS_ok f2).2 q]; rfl
        | some z =>
          obtain ⟨w, g1, _⟩ := (valS_ok f2).1 z q
          rw [g1]; rfl
    · cases e2
  · cases e2
theorem lr_inL : LR2 K Γ rdInL (rInG K) := by
  refine ⟨fun x y h Q Q' k w => ?_, fun x y v u H h C' Q rv ru rm w k => ?_⟩
  · unfold rdInL at w ⊢
    split at w
    · split at w
      · exact k _ _ w
      · exact w
    · split at w
      · exact ⟨w.1, w.2.1, k _ _ w.2.2⟩
      · exact w
  · unfold rdInL at w
    split at w
    · rename_i p e0
      split at w
      · rename_i b e1
        obtain ⟨o, e2, g, e3⟩ := inO_ok rm rv ru e0 e1
        exact .inr ⟨_, o, e2, g, by rw [e3]; exact k _ _ _ H PX.refl rv_bl rm w⟩
      · exact w.elim
    · split at w
      · rename_i d e e1 e2
        exact .inl ⟨d, e, asD_ok rv rm e1, asD_ok ru rm (asL_D e2), w.1, w.2.1, k _ _ _ H PX.refl rv_bl rm w.2.2⟩
      · exact w.elim
theorem lr_notInL : LR2 K Γ rdNotInL (rNotInG K) := by
  refine ⟨fun x y h Q Q' k w => ?_, fun x y v u H h C' Q rv ru rm w k => ?_⟩
  · unfold rdNotInL at w ⊢
    split at w
    · split at w
      · exact k _ _ w
      · exact w
    · split at w
      · exact ⟨w.1, w.2.1, k _ _ w.2.2⟩
      · exact w
  · unfold rdNotInL at w
    split at w
    · rename_i p e0
      split at w
      · rename_i b e1
        obtain ⟨o, e2, g, e3⟩ := inO_ok rm rv ru e0 e1
        exact .inr ⟨_, o, e2, g, by rw [e3]; exact k _ _ _ H PX.refl rv_bl rm w⟩
      · exact w.elim
    · split at w
      · rename_i d e e1 e2
        exact .inl ⟨d, e, asD_ok rv rm e1, asD_ok ru rm (asL_D e2), w.1, w.2.1, k _ _ _ H PX.refl rv_bl rm w.2.2⟩
      · exact w.elim
end

/-! ## a[i] -/
def rdIx : DR2 := fun x y h Q => match ownO h x with
  | some p => match ixO p.2 y with
    | some z => Q z h
    | none => False
  | none => match asInt y with
  | some i => match asStr x with
    | some z => match atI z.cps.toList i with
      | some c => z.length ≤ sizeLine ∧ Q (.d (.str ⟨#[c]⟩)) h
      | none => False
    | none => match asQ h x with
      | some xs => match atI xs i with
        | some d => Q (.d d) h
        | none => False
      | none => False
  | none => False
def rIxDc : R2 := fun x y H Q => ∃ a v, x = .ref a ∧ DGet H a y (some v) ∧ Q v H
theorem ix_dct {X : Cx} (hu : X.A.units + 1 < cLine) : IxR X rIxDc := by
  intro value slice pins s σ H x y v u Q I rx ry h hs
  obtain ⟨a, z, rfl, g, q⟩ := h
  obtain rfl : v = Value.ref a := rx
  exact tail_any (dict_typeIs I g) slot_dict_getitem.lookup (d_getItem hu I g ry fun w' s3 I3 rw' => ⟨z, H, I3, rw', q⟩) hs
def rIxG (K : PySem.W.Frag) : R2 := fun x y H Q => rIx K x y H Q ∨ rIxDc x y H Q
theorem ix_G {X : Cx} (hu : X.A.units + 1 < cLine) : IxR X (rIxG X.K) := ix_seq.or (ix_dct hu)
theorem dps_at {K : PySem.W.Frag} {H : Hp} {ds : List PyData} {vs : List V} {i : Int} {d : PyData} (r : DpAll K H vs ds) (e : atI ds i = some d) : ∃ v, atI vs i = some v ∧ Dp K H v d := by
  unfold atI at e ⊢
  rw [dps_len r]
  cases q : ixN ds.length i with
  | none => rw [q] at e; cases e
  | some j =>
    rw [q] at e
    exact dps_get r e
theorem lr_ix {K : PySem.W.Frag} : LR2 K Γ rdIx (rIxG K) := by
  refine ⟨fun x y h Q Q' k w => ?_, fun x y v u H h C' Q rv ru rm w k => ?_⟩
  · unfold rdIx at w ⊢
    split at w
    · split at w
      · exact k _ _ w
      · exact w
    · split at w
      · split at w
        · split at w
          · exact ⟨w.1, k _ _ w.2⟩
          · exact w
        · split at w
          · split at w
            · exact k _ _ w
            · exact w
          · exact w
      · exact w
  · unfold rdIx at w
    split at w
    · rename_i p e0
      split at w
      · rename_i z e1
        obtain ⟨ex, ea⟩ := ownO_ok e0
        subst ex
        have ev : v = .ref p.1 := rv
        subst ev
        obtain ⟨u0, f1, f2⟩ := ro_at (rm.ob _ _ ea)
        have fin : ∀ w', RVF K (Fz Γ H h) z w' → Q w' H := fun w' rz => k z h w' H PX.refl (by cases z <;> exact rz) rm w
        unfold ixO at e1
        split at e1
        · rename_i xs hq
          rw [hq] at f2
          split at e1
          · rename_i i e2
            cases u0 <;> first | exact f2.elim | skip
            obtain ⟨w', g1, g2⟩ := pairs_at f2 e1
            exact .inl (.inl ⟨_, _, i, w', rfl, asInt_ok ru e2, SqL.of f1, g1, fin _ g2⟩)
          · cases e1
        · rename_i xs hq
          rw [hq] at f2
          split at e1
          · rename_i i e2
            cases u0 <;> first | exact f2.elim | skip
            obtain ⟨w', g1, g2⟩ := pairs_at f2 e1
            exact .inl (.inr (.inl ⟨_, _, i, w', rfl, asInt_ok ru e2, SqT.of f1, g1, fin _ g2⟩))
          · cases e1
        · rename_i ps hq
          rw [hq] at f2
          split at e1
          · rename_i i e2
            cases u0 <;> first | exact f2.elim | skip
            obtain ⟨w', g1, g2⟩ := (valS_ok f2).1 _ e1
            refine .inr ⟨_, w', rfl, ?_, fin _ g2⟩
            rw [asKey_ok ru e2, ← g1]
            exact DGet.k f1
          · cases e1
        · cases e1
      · exact w.elim
    · split at w
      · rename_i i e2
        have eu := asInt_ok ru e2
        split at w
        · rename_i z e1
          split at w
          · rename_i c e3
            exact .inl (.inr (.inr ⟨z, i, c, asStr_ok rv e1, eu, w.1, e3, k _ _ _ H PX.refl rv_str rm w.2⟩))
          · exact w.elim
        · split at w
          · rename_i xs e1
            split at w
            · rename_i d e3
              obtain ⟨a, vs, rfl, s1, d1⟩ := asQ_ok rv rm e1
              obtain ⟨u', e4, rd⟩ := dps_at d1 e3
              rcases s1 with s1 | s1
              · exact .inl (.inl ⟨a, vs, i, u', rfl, eu, s1, e4, k (.d d) _ _ H PX.refl rd rm w⟩)
              · exact .inl (.inr (.inl ⟨a, vs, i, u', rfl, eu, s1, e4, k (.d d) _ _ H PX.refl rd rm w⟩))
            · exact w.elim
          · exact w.elim
      · exact w.elim
section
variable {X : Cx} {a b c e : Expr} {pos p2 : Pos} {ta tb tc te : DTE} {t : DTA} {es : List Expr}
theorem de_ix (hu : X.A.units + 1 < cLine) (ha : DE X Γ a ta) (hb : DE X Γ b tb) (hs : PlainIx b := by exact fun _ _ => rfl) : DE X Γ (.Subscript a b pos) (dOp rdIx ta tb) :=
  ⟨mono_op (lr_ix (K := X.K) (Γ := Γ)).mono ha.mono hb.mono, pe_imp (pe_ix (ix_G hu) ha.pe hb.pe hs) (op_lift lr_ix ha.mono hb.mono)⟩

/-! ## slices -/
abbrev DTO := DSt → MH → (Option Int → MH → Prop) → Prop
structure DO (X : Cx) (Γ : GI) (e : Option Expr) (t : DTO) : Prop where
  mono : Mono t
  po : PO X e (lift X.K Γ (fun _ _ a b => a = b) t)
def dNoPart : DTO := fun _ h Q => Q none h
def dPart (t : DTE) : DTO := fun σ h Q => t σ h fun x h1 => match asInt x with
  | some i => Q (some i) h1
  | none => False
theorem po_imp {e : Option Expr} {t t' : TO} (p : PO X e t) (k : ∀ σ H Q, t' σ H Q → t σ H Q) : PO X e t' := by
  cases p with
  | mk r => exact ⟨fun pins s σ H Q I w => r pins s σ H Q I (k σ H Q w)⟩
theorem do_none : DO X Γ none dNoPart := ⟨fun _ _ _ _ k w => k _ _ w, po_imp po_none fun σ H Q ⟨σd, h, rs, rm, w⟩ => w _ H PX.refl rfl rm⟩
theorem do_some (ha : DE X Γ e te) : DO X Γ (some e) (dPart te) :=
  ⟨fun σ h Q Q' k w => ha.mono _ _ _ _ (fun x h1 w1 => by
    cases q : asInt x with
    | none => rw [q] at w1; exact w1
    | some i => rw [q] at w1; exact k _ _ w1) w,
  po_imp (po_some ha.pe) fun σ H Q ⟨σd, h, rs, rm, w⟩ => lift_mk ha.mono rs rm w fun x h1 v H1 px rs1 rv rm1 w1 => by
    cases q : asInt x with
    | none => rw [q] at w1; exact w1.elim
    | some i =>
      rw [q] at w1
      exact ⟨i, asInt_ok rv q, w1 _ H1 px rfl rm1⟩⟩
abbrev cutD (xs : List PyData) (lo hi : Option Int) : List PyData := (xs.drop (HT.sIx xs.length 0 lo)).take (HT.sIx xs.length xs.length hi - HT.sIx xs.length 0 lo)
theorem dps_cut {K : PySem.W.Frag} {H : Hp} {ds : List PyData} {vs : List V} {lo hi : Option Int} (r : DpAll K H vs ds) : DpAll K H (cutV vs lo hi) (cutD ds lo hi) := by
  unfold cutV cutD
  rw [dps_len r]
  exact dps_take _ (dps_drop _ r)
def rdSl (x : SV) (lo hi : Option Int) (h : MH) (Q : DK) : Prop := match asStr x with
  | some z => z.length ≤ sizeLine ∧ Q (.d (.str (cutS z lo hi))) h
  | none => match asT x with
    | some xs => Q (.d (.tuple (cutD xs lo hi))) h
    | none => match asL h x with
      | some xs => Q (.d (.list (cutD xs lo hi))) h
      | none => False
end
end DL

namespace DL
open PySem PySem.Spec PyProof.Rows L2
set_option autoImplicit true

/-! ## slices -/
def rSlAll (K : PySem.W.Frag) : V → Option Int → Option Int → Hp → VK → Prop := fun x lo hi H Q => rSlS x lo hi H Q ∨ (rSlA K x lo hi H Q ∨ rSlL K x lo hi H Q)
theorem sl_all {X : Cx} : SlR X (rSlAll X.K) := sl_str.or (sl_tupA.or sl_list)
theorem cut_whole {α : Type} (xs : List α) {lo hi : Option Int} (h : HT.sIx xs.length 0 lo = 0 ∧ HT.sIx xs.length xs.length hi = xs.length) : (xs.drop (HT.sIx xs.length 0 lo)).take (HT.sIx xs.length xs.length hi - HT.sIx xs.length 0 lo) = xs := by
  rw [h.1, h.2, List.drop_zero, Nat.sub_zero, List.take_length]
def dSl (te : DTE) (tl th : DTO) : DTE := fun σ h Q => te σ h fun x h1 => tl σ h1 fun lo h2 => th σ h2 fun hi h3 => rdSl x lo hi h3 Q
section
variable {X : Cx} {a b c e : Expr} {pos p2 : Pos} {ta tb tc te : DTE} {t : DTA} {es : List Expr} {tl th : DTO} {lo hi : Option Expr}
theorem rdSl_mono {x : SV} {lo hi : Option Int} {h : MH} {Q Q' : DK} (k : ∀ z h', Q z h' → Q' z h') (w : rdSl x lo hi h Q) : rdSl x lo hi h Q' := by
  unfold rdSl at w ⊢
  split at w
  · exact ⟨w.1, k _ _ w.2⟩
  · split at w
    · exact k _ _ w
    · split at w
      · exact k _ _ w
      · exact w
theorem mono_sl (me : Mono te) (ml : Mono tl) (mh : Mono th) : Mono (dSl te tl th) := fun σ h Q Q' k w => me _ _ _ _ (fun x h1 w1 => ml _ _ _ _ (fun l h2 w2 => mh _ _ _ _ (fun u h3 w3 => rdSl_mono k w3) w2) w1) w
theorem sl_run {K : PySem.W.Frag} {x : SV} {v : V} {lo hi : Option Int} {H : Hp} {h : MH} {C : DK} {Q : VK} (rv : RV K Γ H h x v) (rm : RM K Γ H h) (w : rdSl x lo hi h C) (k : ∀ z h' w H', PX Γ H h H' h' → RV K Γ H' h' z w → RM K Γ H' h' → C z h' → Q w H') : rSlAll K v lo hi H Q := by
  unfold rdSl at w
  split at w
  · rename_i z e1
    exact .inl ⟨z, asStr_ok rv e1, w.1, k _ _ _ H PX.refl rv_str rm w.2⟩
  · split at w
    · rename_i xs e1
      obtain ⟨a, vs, rfl, s1, d1⟩ := asT_ok rv e1
      refine .inr (.inl ⟨a, vs, rfl, s1, fun hw => ?_, fun _ p hp => ?_⟩)
      · have e3 : cutD xs lo hi = xs := cut_whole xs (by rw [dps_len d1] at hw; exact hw)
        rw [e3] at w
        cases x with
        | own _ => cases e1
        | d x => cases x with
          | tuple ys => cases e1; exact k _ _ _ H PX.refl rv rm w
          | _ => cases e1
      · obtain ⟨p1, r1, v1⟩ := new_tup hp rm (dps_cut (lo := lo) (hi := hi) d1)
        exact k _ _ _ _ p1 v1 r1 w
    · split at w
      · rename_i xs e1
        obtain ⟨a, vs, rfl, s1, d1⟩ := asL_ok rv rm e1
        refine .inr (.inr ⟨a, vs, rfl, s1, fun p hp => ?_⟩)
        obtain ⟨p1, r1, v1⟩ := new_list hp rm (dps_cut (lo := lo) (hi := hi) d1)
        exact k _ _ _ _ p1 v1 r1 w
      · exact w.elim
theorem de_sl (he : DE X Γ e te) (hl : DO X Γ lo tl) (hh : DO X Γ hi th) : DE X Γ (.Subscript e (.Slice lo hi none p2) pos) (dSl te tl th) :=
  ⟨mono_sl he.mono hl.mono hh.mono, pe_imp (pe_slice sl_all he.pe hl.po hh.po) fun σ H Q ⟨σd, h, rs, rm, w⟩ =>
    lift_mk he.mono rs rm w fun x h1 v H1 px rs1 rv rm1 w1 => lift_mk hl.mono rs1 rm1 w1 fun l h2 l' H2 px2 rs2 el rm2 w2 => lift_mk hh.mono rs2 rm2 w2 fun u h3 u' H3 px3 rs3 eu rm3 w3 => by
      subst el eu
      exact sl_run ((rv.up px2).up px3) rm3 w3 fun z h' w' H' px' rz rm' q => q _ _ (((px.trans px2).trans px3).trans px') rz rm'⟩
/-- a list's slice, fresh -/
def fSl (te : DTE) (tl th : DTO) : DTF := fun σ h Q => te σ h fun x h1 => tl σ h1 fun lo h2 => th σ h2 fun hi h3 => match asL h3 x with
  | some xs => Q (cutD xs lo hi) h3
  | none => False
theorem mono_fsl (me : Mono te) (ml : Mono tl) (mh : Mono th) : Mono (fSl te tl th) := fun σ h Q Q' k w => me _ _ _ _ (fun x h1 w1 => ml _ _ _ _ (fun l h2 w2 => mh _ _ _ _ (fun u h3 w3 => by
  split at w3
  · exact k _ _ w3
  · exact w3) w2) w1) w
theorem df_sl (he : DE X Γ e te) (hl : DO X Γ lo tl) (hh : DO X Γ hi th) : DF X Γ (.Subscript e (.Slice lo hi none p2) pos) (fSl te tl th) :=
  ⟨mono_fsl he.mono hl.mono hh.mono, pe_imp (pe_slice sl_list he.pe hl.po hh.po) fun σ H Q ⟨σd, h, rs, rm, w⟩ =>
    lift_mk he.mono rs rm w fun x h1 v H1 px rs1 rv rm1 w1 => lift_mk hl.mono rs1 rm1 w1 fun l h2 l' H2 px2 rs2 el rm2 w2 => lift_mk hh.mono rs2 rm2 w2 fun u h3 u' H3 px3 rs3 eu rm3 w3 => by
      subst el eu
      split at w3
      · rename_i xs e1
        obtain ⟨a, vs, rfl, s1, d1⟩ := asL_ok ((rv.up px2).up px3) rm3 e1
        exact ⟨a, vs, rfl, s1, fun p hp => w3 _ _ _ ((px.trans px2).trans px3) (dps_cut d1) rm3 hp⟩
      · exact w3.elim⟩
/-- xs[::-1] -/
def fRev (te : DTE) : DTF := fun σ h Q => te σ h fun x h1 => match asL h1 x with
  | some xs => Q xs.reverse h1
  | none => False
theorem df_rev {k : Nat} {p1 p2 p3 : Pos} (he : DE X Γ e te) : DF X Γ (.Subscript e (.Slice none none (some (.UnaryOp .USub (.Constant (.int 1) k p1) p2)) p3) pos) (fRev te) :=
  ⟨fun σ h Q Q' k w => he.mono _ _ _ _ (fun x h1 w1 => by
    split at w1
    · exact k _ _ w1
    · exact w1) w, pe_imp (pe_revL he.pe) fun σ H Q ⟨σd, h, rs, rm, w⟩ => lift_mk he.mono rs rm w fun x h1 v H1 px rs1 rv rm1 w1 => by
      split at w1
      · rename_i xs e1
        obtain ⟨a, vs, rfl, s1, d1⟩ := asL_ok rv rm1 e1
        exact ⟨a, vs, rfl, s1, fun p hp => w1 _ _ _ px (dps_rev d1) rm1 hp⟩
      · exact w1.elim⟩
/-- + of lists, * of a list, fresh -/
def fAdd (ta tb : DTE) : DTF := fun σ h Q => ta σ h fun x h1 => tb σ h1 fun y h2 => match asL h2 x, asL h2 y with
  | some a, some b => a.length + b.length ≤ sizeLine ∧ Q (a ++ b) h2
  | _, _ => False
theorem df_add (ha : DE X Γ a ta) (hb : DE X Γ b tb) : DF X Γ (.BinOp a .Add b pos) (fAdd ta tb) :=
  ⟨fun σ h Q Q' k w => ha.mono _ _ _ _ (fun x h1 w1 => hb.mono _ _ _ _ (fun y h2 w2 => by
    split at w2
    · exact ⟨w2.1, k _ _ w2.2⟩
    · exact w2) w1) w, pe_imp (pe_op op_catG ha.pe hb.pe) fun σ H Q ⟨σd, h, rs, rm, w⟩ => lift_mk ha.mono rs rm w fun x h1 v H1 px rs1 rv rm1 w1 => lift_mk hb.mono rs1 rm1 w1 fun y h2 u H2 px2 rs2 ru rm2 w2 => by
      split at w2
      · rename_i i j e1 e2
        obtain ⟨a, xs, rfl, s1, d1⟩ := asL_ok (rv.up px2) rm2 e1
        obtain ⟨b, ys, rfl, s2, d2⟩ := asL_ok ru rm2 e2
        exact ⟨a, b, xs, ys, rfl, rfl, s1, s2, by rw [dps_len d1, dps_len d2]; exact w2.1, fun p hp => w2.2 _ _ _ (px.trans px2) (dps_app d1 d2) rm2 hp⟩
      · exact w2.elim⟩

/-! ## - of an int -/
def dNeg (ta : DTE) : DTE := fun σ h Q => ta σ h fun x h1 => match asInt x with
  | some i => Q (.d (.int (-i))) h1
  | none => False
theorem de_neg (ha : DE X Γ a ta) : DE X Γ (.UnaryOp .USub a pos) (dNeg ta) :=
  ⟨fun σ h Q Q' k w => ha.mono _ _ _ _ (fun x h1 w1 => by
    split at w1
    · exact k _ _ w1
    · exact w1) w, pe_imp (pe_un un_neg ha.pe) fun σ H Q ⟨σd, h, rs, rm, w⟩ => lift_mk ha.mono rs rm w fun x h1 v H1 px rs1 rv rm1 w1 => by
      split at w1
      · rename_i i e1
        exact ⟨i, asInt_ok rv e1, w1 _ _ px rv_int rm1⟩
      · exact w1.elim⟩
end

/-! ## builtins by values -/
section
variable {K : PySem.W.Frag}
theorem rvs1 {H : Hp} {h : MH} {x : SV} {vs : List V} (r : RVs K Γ H h [x] vs) : ∃ v, vs = [v] ∧ RV K Γ H h x v := by
  cases r with
  | cons r t => cases t; exact ⟨_, rfl, r⟩
theorem rvs2 {H : Hp} {h : MH} {x y : SV} {vs : List V} (r : RVs K Γ H h [x, y] vs) : ∃ v u, vs = [v, u] ∧ RV K Γ H h x v ∧ RV K Γ H h y u := by
  cases r with
  | cons r t => cases t with
    | cons r2 t => cases t; exact ⟨_, _, rfl, r, r2⟩
/-- len -/
def lenO : MO → Option Nat
  | .lst xs => some xs.length
  | .seq xs => some xs.length
  | .tpl xs => some xs.length
  | .dct ps => some ps.length
  | _ => none
def rdLen : DRA := fun xs h Q => match xs with
  | [x] => match ownO h x with
    | some p => match lenO p.2 with
      | some n => Q (.d (.int (n : Nat))) h
      | none => False
    | none => match asStr x with
      | some z => z.length ≤ sizeLine ∧ Q (.d (.int z.length)) h
      | none => match asQ h x with
        | some ds => Q (.d (.int ds.length)) h
        | none => False
  | _ => False
def rLenAll (K : PySem.W.Frag) : List V → Hp → VK → Prop := fun xs H Q => ((∃ p ys, xs = [.ref p] ∧ (SqL K H p ys ∨ SqT K H p ys) ∧ Q (.int ys.length) H) ∨ (∃ z, xs = [.str z] ∧ z.length ≤ sizeLine ∧ Q (.int z.length) H)) ∨ (∃ a kvs, xs = [V.ref a] ∧ H a = some (.dK kvs) ∧ Q (.int kvs.length) H)
theorem cr_len {X : Cx} : CallR X (.builtin "len") (rLenAll X.K) := (call_len_seq.or call_len_str).or call_lenD
theorem la_len : LRA K Γ rdLen (rLenAll K) := by
  refine ⟨fun xs h Q Q' k w => ?_, fun xs vs H h C Q r rm w k => ?_⟩
  · unfold rdLen at w ⊢
    split at w
    · split at w
      · split at w
        · exact k _ _ w
        · exact w
      · split at w
        · exact ⟨w.1, k _ _ w.2⟩
        · split at w
          · exact k _ _ w
          · exact w
    · exact w
  · unfold rdLen at w
    split at w
    · obtain ⟨v, rfl, rv⟩ := rvs1 r
      split at w
      · rename_i p e0
        obtain ⟨a, o⟩ := p
        obtain ⟨ex, ea⟩ := ownO_ok e0
        subst ex
        have ev : v = .ref a := rv
        subst ev
        obtain ⟨u0, f1, f2⟩ := ro_at (rm.ob _ _ ea)
        cases o <;> cases u0 <;> first | exact f2.elim | exact w.elim | skip
        · exact .inl (.inl ⟨a, _, rfl, .inl (SqL.of f1), k _ _ _ H PX.refl rv_int rm (by rw [dps_len f2]; exact w)⟩)
        · exact .inl (.inl ⟨a, _, rfl, .inl (SqL.of f1), k _ _ _ H PX.refl rv_int rm (by rw [← pairs_len f2]; exact w)⟩)
        · exact .inl (.inl ⟨a, _, rfl, .inr (SqT.of f1), k _ _ _ H PX.refl rv_int rm (by rw [← pairs_len f2]; exact w)⟩)
        · exact .inr ⟨a, _, rfl, f1, k _ _ _ H PX.refl rv_int rm (by rw [← pairs_len f2]; exact w)⟩
      · split at w
        · rename_i z e1
          exact .inl (.inr ⟨z, by rw [asStr_ok rv e1], w.1, k _ _ _ H PX.refl rv_int rm w.2⟩)
        · split at w
          · rename_i ds e1
            obtain ⟨a, vs, rfl, s1, d1⟩ := asQ_ok rv rm e1
            exact .inl (.inl ⟨a, vs, rfl, s1, by rw [dps_len d1]; exact k _ _ _ H PX.refl rv_int rm w⟩)
          · exact w.elim
    · exact w.elim
/-- list(x) -/
def rfList : DRF := fun xs h Q => match xs with
  | [x] => match asQ h x with
    | some ds => Q ds h
    | none => False
  | _ => False
theorem lf_list : LRF K Γ rfList (fun xs H Q => ∃ p ys, xs = [.ref p] ∧ (SqL K H p ys ∨ SqT K H p ys) ∧ ∀ l, H l = none → Q (.ref l) (upd H l (.lst ys))) := by
  refine ⟨fun xs h Q Q' k w => ?_, fun xs vs H h C Q r rm w k => ?_⟩
  · unfold rfList at w ⊢
    split at w
    · split at w
      · exact k _ _ w
      · exact w
    · exact w
  · unfold rfList at w
    split at w
    · obtain ⟨v, rfl, rv⟩ := rvs1 r
      split at w
      · rename_i ds e1
        obtain ⟨a, vs, rfl, s1, d1⟩ := asQ_ok rv rm e1
        exact ⟨a, vs, rfl, s1, fun l hl => k _ _ _ H l PX.refl d1 rm w hl⟩
      · exact w.elim
    · exact w.elim
/-- tuple(x) -/
def rdTuple : DRA := fun xs h Q => match xs with
  | [x] => match asQ h x with
    | some ds => Q (.d (.tuple ds)) h
    | none => False
  | _ => False
theorem la_tuple : LRA K Γ rdTuple (fun xs H Q => ∃ p ys, xs = [.ref p] ∧ ((SqL K H p ys ∧ ∀ l, H l = none → Q (.ref l) (upd H l (.tup ys))) ∨ (SqT K H p ys ∧ Q (.ref p) H))) := by
  refine ⟨fun xs h Q Q' k w => ?_, fun xs vs H h C Q r rm w k => ?_⟩
  · unfold rdTuple at w ⊢
    split at w
    · split at w
      · exact k _ _ w
      · exact w
    · exact w
  · unfold rdTuple at w
    split at w
    · rename_i x
      obtain ⟨v, rfl, rv⟩ := rvs1 r
      split at w
      · rename_i ds e1
        unfold asQ at e1
        split at e1
        · rename_i ds' e2
          cases e1
          obtain ⟨a, vs, rfl, s1, d1⟩ := asL_ok rv rm e2
          refine ⟨a, vs, rfl, .inl ⟨s1, fun l hl => ?_⟩⟩
          obtain ⟨p1, r1, v1⟩ := new_tup hl rm d1
          exact k _ _ _ _ p1 v1 r1 w
        · obtain ⟨a, vs, rfl, s1, d1⟩ := asT_ok rv e1
          refine ⟨a, vs, rfl, .inr ⟨s1, ?_⟩⟩
          cases x with
          | own _ => cases e1
          | d x => cases x with
            | tuple ys => cases e1; exact k _ _ _ H PX.refl rv rm w
            | _ => cases e1
      · exact w.elim
    · exact w.elim
/-- int(b), int(n) -/
def rdInt : DRA := fun xs h Q => match xs with
  | [x] => match asInt x with
    | some i => Q (.d (.int i)) h
    | none => match asBool x with
      | some b => Q (.d (.int (if b then 1 else 0))) h
      | none => False
  | _ => False
theorem la_int : LRA K Γ rdInt (fun xs H Q => (∃ i, xs = [.int i] ∧ Q (.int i) H) ∨ ∃ k, xs = [.bl k] ∧ Q (.int (if k then 1 else 0)) H) := by
  refine ⟨fun xs h Q Q' k w => ?_, fun xs vs H h C Q r rm w k => ?_⟩
  · unfold rdInt at w ⊢
    split at w
    · split at w
      · exact k _ _ w
      · split at w
        · exact k _ _ w
        · exact w
    · exact w
  · unfold rdInt at w
    split at w
    · obtain ⟨v, rfl, rv⟩ := rvs1 r
      split at w
      · rename_i i e1
        exact .inl ⟨i, by rw [asInt_ok rv e1], k _ _ _ H PX.refl rv_int rm w⟩
      · split at w
        · rename_i b e1
          exact .inr ⟨b, by rw [asBool_ok rv e1], k _ _ _ H PX.refl rv_int rm w⟩
        · exact w.elim
    · exact w.elim
/-- abs -/
def rdAbs : DRA := fun xs h Q => match xs with
  | [x] => match asInt x with
    | some i => Q (.d (.int (if i < 0 then -i else i))) h
    | none => False
  | _ => False
theorem la_abs : LRA K Γ rdAbs (fun xs H Q => ∃ i, xs = [.int i] ∧ Q (.int (if i < 0 then -i else i)) H) := by
  refine ⟨fun xs h Q Q' k w => ?_, fun xs vs H h C Q r rm w k => ?_⟩
  · unfold rdAbs at w ⊢
    split at w
    · split at w
      · exact k _ _ w
      · exact w
    · exact w
  · unfold rdAbs at w
    split at w
    · obtain ⟨v, rfl, rv⟩ := rvs1 r
      split at w
      · rename_i i e1
        exact ⟨i, by rw [asInt_ok rv e1], k _ _ _ H PX.refl rv_int rm w⟩
      · exact w.elim
    · exact w.elim
/-- max, min of two ints -/
def rdMM (f : Int → Int → Int) : DRA := fun xs h Q => match xs with
  | [x, y] => match asInt x, asInt y with
    | some i, some j => Q (.d (.int (f i j))) h
    | _, _ => False
  | _ => False
theorem la_mm {f : Int → Int → Int} : LRA K Γ (rdMM f) (fun xs H Q => ∃ i j, xs = [.int i, .int j] ∧ Q (.int (f i j)) H) := by
  refine ⟨fun xs h Q Q' k w => ?_, fun xs vs H h C Q r rm w k => ?_⟩
  · unfold rdMM at w ⊢
    split at w
    · split at w
      · exact k _ _ w
      · exact w
    · exact w
  · unfold rdMM at w
    split at w
    · obtain ⟨v, u, rfl, rv, ru⟩ := rvs2 r
      split at w
      · rename_i i j e1 e2
        exact ⟨i, j, by rw [asInt_ok rv e1, asInt_ok ru e2], k _ _ _ H PX.refl rv_int rm w⟩
      · exact w.elim
    · exact w.elim
abbrev rdMax : DRA := rdMM fun i j => if j > i then j else i
abbrev rdMin : DRA := rdMM fun i j => if j < i then j else i
/-- all, any of a list of truths -/
def bools : List PyData → Option (List Bool)
  | [] => some []
  | .bool b :: r => match bools r with
    | some bs => some (b :: bs)
    | none => none
  | _ :: _ => none
theorem bools_ok {H : Hp} : ∀ {ds : List PyData} {vs : List V} {bs : List Bool}, DpAll K H vs ds → bools ds = some bs → vs = bs.map V.bl
  | [], _, _, h, e => by cases h; cases e; rfl
  | d :: r, _, bs, h, e => by
    cases h with
    | cons h1 h2 =>
      cases d with
      | bool b =>
        unfold bools at e
        split at e
        · rename_i bs' e'
          cases e
          cases h1
          rw [bools_ok h2 e']
          rfl
        · cases e
      | _ => cases e
def rdQ (f : List Bool → Bool) : DRA := fun xs h Q => match xs with
  | [x] => match asL h x with
    | some ds => match bools ds with
      | some bs => Q (.d (.bool (f bs))) h
      | none => False
    | none => False
  | _ => False
theorem la_q {f : List Bool → Bool} : LRA K Γ (rdQ f) (fun vs H Q => ∃ (a : Addr) (bs : List Bool), vs = [V.ref a] ∧ SqL K H a (bs.map V.bl) ∧ Q (.bl (f bs)) H) := by
  refine ⟨fun xs h Q Q' k w => ?_, fun xs vs H h C Q r rm w k => ?_⟩
  · unfold rdQ at w ⊢
    split at w
    · split at w
      · split at w
        · exact k _ _ w
        · exact w
      · exact w
    · exact w
  · unfold rdQ at w
    split at w
    · obtain ⟨v, rfl, rv⟩ := rvs1 r
      split at w
      · rename_i ds e1
        split at w
        · rename_i bs e2
          obtain ⟨a, vs, rfl, s1, d1⟩ := asL_ok rv rm e1
          rw [bools_ok d1 e2] at s1
          exact ⟨a, bs, rfl, s1, k _ _ _ H PX.refl rv_bl rm w⟩
        · exact w.elim
      · exact w.elim
    · exact w.elim
abbrev rdAny : DRA := rdQ fun bs => bs.any id
abbrev rdAll : DRA := rdQ fun bs => bs.all id
theorem la_any : LRA K Γ rdAny (rAny K) := la_q
theorem la_all : LRA K Γ rdAll (rAll K) := la_q
end

/-! ## list(range(..)) -/
section
variable {X : Cx} {a b c e : Expr} {pos p2 : Pos} {ta tb tc te : DTE} {t : DTA} {es : List Expr}
def rgD (a b : Int) : List PyData := (List.range (b - a).toNat).map fun i => PyData.int (a + (i : Nat))
theorem dps_rg {K : PySem.W.Frag} {H : Hp} (a b : Int) : DpAll K H (rgV a b) (rgD a b) := by
  have z : ∀ (l : List Nat), DpAll K H (l.map fun i => V.int (a + (i : Nat))) (l.map fun i => PyData.int (a + (i : Nat))) := fun l => by
    induction l with
    | nil => exact .nil
    | cons i l ih => exact .cons (.int _) ih
  exact z _
def fLstRg1 (ta : DTE) : DTF := fun σ h Q => ta σ h fun x h1 => match asInt x with
  | some n => n ≤ 16777216 ∧ -16777216 ≤ n ∧ Q (rgD 0 n) h1
  | none => False
def fLstRg2 (ta tb : DTE) : DTF := fun σ h Q => ta σ h fun x h1 => tb σ h1 fun y h2 => match asInt x, asInt y with
  | some n, some m => (0 ≤ n ∧ n ≤ 16777216 ∧ -16777216 ≤ m ∧ m ≤ 16777216) ∧ Q (rgD n m) h2
  | _, _ => False
theorem rgOk_of {a b : Int} (h0 : 0 ≤ a) (h1 : a ≤ 16777216) (h2 : -16777216 ≤ b) (h3 : b ≤ 16777216) : RgOk a b := ⟨by omega, by omega, by omega, by omega, by omega⟩
theorem df_lstRg1 {p p3 pos3 : Pos} (hc : X.calm = true) (hg : Gl X "list") (hm : X.mg "list" = none) (hg2 : Gl X "range") (hm2 : X.mg "range" = none) (ha : DE X Γ a ta)
    (na : starEach [a] X.env = (false, eval a X.env) :: starEach [] X.env := by rfl) (na2 : starEach [Expr.Call (.Name "range" p3) [a] [] pos3] X.env = (false, eval (Expr.Call (.Name "range" p3) [a] [] pos3) X.env) :: starEach [] X.env := by rfl) :
    DF X Γ (.Call (.Name "list" p) [.Call (.Name "range" p3) [a] [] pos3] [] pos) (fLstRg1 ta) :=
  ⟨fun σ h Q Q' k w => ha.mono _ _ _ _ (fun x h1 w1 => by
    split at w1
    · exact ⟨w1.1, w1.2.1, k _ _ w1.2.2⟩
    · exact w1) w, pe_imp (pe_listRg hc hg hm (prg_1 hg2 hm2 ha.pe na) na2) fun σ H Q ⟨σd, h, rs, rm, w⟩ => lift_mk ha.mono rs rm w fun x h1 v H1 px rs1 rv rm1 w1 => by
      split at w1
      · rename_i n e1
        exact ⟨n, asInt_ok rv e1, rgOk_of (by omega) (by omega) w1.2.1 w1.1, fun q hq => w1.2.2 _ _ _ px (dps_rg 0 n) rm1 hq⟩
      · exact w1.elim⟩
theorem df_lstRg2 {p p3 pos3 : Pos} (hc : X.calm = true) (hg : Gl X "list") (hm : X.mg "list" = none) (hg2 : Gl X "range") (hm2 : X.mg "range" = none) (ha : DE X Γ a ta) (hb : DE X Γ b tb)
    (na : starEach [a, b] X.env = (false, eval a X.env) :: starEach [b] X.env := by rfl) (nb : starEach [b] X.env = (false, eval b X.env) :: starEach [] X.env := by rfl) (na2 : starEach [Expr.Call (.Name "range" p3) [a, b] [] pos3] X.env = (false, eval (Expr.Call (.Name "range" p3) [a, b] [] pos3) X.env) :: starEach [] X.env := by rfl) (hp2 : (backTo pos3 (starEach [b] X.env)).any (·.1) = false := by rfl) :
    DF X Γ (.Call (.Name "list" p) [.Call (.Name "range" p3) [a, b] [] pos3] [] pos) (fLstRg2 ta tb) :=
  ⟨fun σ h Q Q' k w => ha.mono _ _ _ _ (fun x h1 w1 => hb.mono _ _ _ _ (fun y h2 w2 => by
    split at w2
    · exact ⟨w2.1, k _ _ w2.2⟩
    · exact w2) w1) w, pe_imp (pe_listRg hc hg hm (prg_2 hg2 hm2 ha.pe hb.pe na nb hp2) na2) fun σ H Q ⟨σd, h, rs, rm, w⟩ => lift_mk ha.mono rs rm w fun x h1 v H1 px rs1 rv rm1 w1 => lift_mk hb.mono rs1 rm1 w1 fun y h2 u H2 px2 rs2 ru rm2 w2 => by
      split at w2
      · rename_i n m e1 e2
        exact ⟨n, m, asInt_ok rv e1, asInt_ok ru e2, rgOk_of w2.1.1 w2.1.2.1 w2.1.2.2.1 w2.1.2.2.2, fun q hq => w2.2 _ _ _ (px.trans px2) (dps_rg n m) rm2 hq⟩
      · exact w2.elim⟩
end

/-! ## methods of lists -/
abbrev DRM := SV → List SV → MH → DK → Prop
structure LRM (K : PySem.W.Frag) (Γ : GI) (r' : DRM) (r : V → List V → Hp → VK → Prop) : Prop where
  mono : ∀ x xs h (Q Q' : DK), (∀ z h', Q z h' → Q' z h') → r' x xs h Q → r' x xs h Q'
  run : ∀ x v xs vs H h (C : DK) (Q : VK), RV K Γ H h x v → RVs K Γ H h xs vs → RM K Γ H h → r' x xs h C → (∀ z h' w H', PX Γ H h H' h' → RV K Γ H' h' z w → RM K Γ H' h' → C z h' → Q w H') → r v vs H Q
def dML (r : DRM) (to : DTE) (t : DTA) : DTE := fun σ h Q => to σ h fun x h1 => match asL h1 x with
  | some _ => t σ h1 fun xs h2 => r x xs h2 Q
  | none => False
section
variable {X : Cx} {a b c e o : Expr} {pos p2 apos cpos : Pos} {ta tb tc te to : DTE} {t : DTA} {es : List Expr} {id : String} {name : Str} {r : V → List V → Hp → VK → Prop} {r' : DRM}
theorem mono_ML (mr : ∀ x xs h (Q Q' : DK), (∀ z h', Q z h' → Q' z h') → r' x xs h Q → r' x xs h Q') (mo : Mono to) (mt : Mono t) : Mono (dML r' to t) := fun σ h Q Q' k w => mo _ _ _ _ (fun x h1 w1 => by
  split at w1
  · exact mt _ _ _ _ (fun xs h2 w2 => mr _ _ _ _ _ k w2) w1
  · exact w1) w
theorem de_mL (pa : PlainAttrs "list") (slot : Slot "list" name id) (hty : typeOf (.builtin id) = pure (.type "method_descriptor")) (hm : MtR X id r) (l : LRM X.K Γ r' r) (ho : DE X Γ o to) (ha : DA X Γ (e :: es) t)
    (hbase : attributeBase o name X.env (eval o X.env) = eval o X.env := by rfl)
    (hfew : ((backTo cpos (starEach (e :: es) X.env)).all (fun x => !x.1) && (backToKw cpos (keywordEach [] X.env)).all (fun x => x.1.isSome)
      && decide ((e :: es).length + ([] : List Keyword).length + (if ([] : List Keyword).isEmpty then 0 else 1) < 30)) = true := by rfl)
    (hline : (apos.endLine == cpos.line) = true := by rfl) (hs : starEach (e :: es) X.env = (false, eval e X.env) :: starEach es X.env := by rfl) (hplain : (backTo cpos (starEach es X.env)).any (·.1) = false := by rfl) :
    DE X Γ (.Call (.Attribute o name apos) (e :: es) [] cpos) (dML r' to t) :=
  ⟨mono_ML l.mono ho.mono ha.mono, pe_imp (pe_bm pa slot hty hm ho.pe ha.pa hbase hfew hline hs hplain) fun σ H Q ⟨σd, h, rs, rm, w⟩ => lift_mk ho.mono rs rm w fun x h1 v H1 px rs1 rv rm1 w1 => by
    split at w1
    · rename_i ds e1
      obtain ⟨a, vs, rfl, s1, d1⟩ := asL_ok rv rm1 e1
      refine ⟨.inl ⟨rfl, vs, s1⟩, lift_mk ha.mono rs1 rm1 w1 fun xs h2 us H2 px2 rs2 rus rm2 w2 => ?_⟩
      exact l.run x _ xs us H2 h2 _ Q (rv.up px2) rus rm2 w2 fun z h' w' H' px' rz rm' q => q _ _ ((px.trans px2).trans px') rz rm'
    · exact w1.elim⟩
theorem de_mL0 (pa : PlainAttrs "list") (slot : Slot "list" name id) (hty : typeOf (.builtin id) = pure (.type "method_descriptor")) (hm : MtR X id r) (l : LRM X.K Γ r' r) (ho : DE X Γ o to)
    (hbase : attributeBase o name X.env (eval o X.env) = eval o X.env := by rfl) (hline : (apos.endLine == cpos.line) = true := by rfl) :
    DE X Γ (.Call (.Attribute o name apos) [] [] cpos) (dML r' to dNil) :=
  ⟨mono_ML l.mono ho.mono (fun _ _ _ _ k w => k _ _ w), pe_imp (pe_bm0 pa slot hty hm ho.pe hbase hline) fun σ H Q ⟨σd, h, rs, rm, w⟩ => lift_mk ho.mono rs rm w fun x h1 v H1 px rs1 rv rm1 w1 => by
    split at w1
    · rename_i ds e1
      obtain ⟨a, vs, rfl, s1, d1⟩ := asL_ok rv rm1 e1
      exact ⟨.inl ⟨rfl, vs, s1⟩, l.run x _ [] [] H1 h1 _ Q rv .nil rm1 w1 fun z h' w' H' px' rz rm' q => q _ _ (px.trans px') rz rm'⟩
    · exact w1.elim⟩
end
/-- one's own list -/
def ownL (h : MH) : SV → Option (Addr × List PyData)
  | .own a => match h a with
    | some (.lst xs) => some (a, xs)
    | _ => none
  | _ => none
theorem ownL_ok {h : MH} {x : SV} {a : Addr} {xs : List PyData} (e : ownL h x = some (a, xs)) : x = .own a ∧ h a = some (.lst xs) := by
  cases x with
  | d _ => cases e
  | own b =>
    cases q : h b with
    | none => simp only [ownL, q] at e; cases e
    | some m => cases m with
      | lst ys => simp only [ownL, q] at e; cases e; exact ⟨rfl, q⟩
      | _ => simp only [ownL, q] at e; cases e
def rdAppend : DRM := fun x xs h Q => match xs with
  | [y] => match fz1 y h with
    | some (d, h1) => match ownL h1 x with
      | some (a, ds) => ds.length < sizeLine ∧ Q (.d .none) (mput h1 a (.lst (ds ++ [d])))
      | none => False
    | none => False
  | _ => False
def rdExtend : DRM := fun x xs h Q => match xs with
  | [y] => match asL h y with
    | some es => match ownL h x with
      | some (a, ds) => ds.length + es.length ≤ sizeLine ∧ Q (.d .none) (mput h a (.lst (ds ++ es)))
      | none => False
    | none => False
  | _ => False
def rdPopAt : DRM := fun x xs h Q => match xs with
  | [y] => match asInt y with
    | some i => match ownL h x with
      | some (a, ds) => match seqIndex? i ds.length with
        | some k => match ds[k]? with
          | some d => (-(2 ^ 63) ≤ i ∧ i < 2 ^ 63) ∧ Q (.d d) (mput h a (.lst (ds.eraseIdx k)))
          | none => False
        | none => False
      | none => False
    | none => False
  | _ => False
def rdPop : DRM := fun x xs h Q => match xs with
  | [] => match ownL h x with
    | some (a, ds) => match ds[ds.length - 1]? with
      | some d => Q (.d d) (mput h a (.lst ds.dropLast))
      | none => False
    | none => False
  | _ => False
def rdIndex : DRM := fun x xs h Q => match xs with
  | [y] => match asL h x, asD h y with
    | some ds, some d => match ds.findIdx? (fun z => PyData.eqv z d) with
      | some j => SeqAt.shaped (.list ds) = true ∧ SeqAt.shaped d = true ∧ Q (.d (.int (j : Nat))) h
      | none => False
    | _, _ => False
  | _ => False
section
variable {K : PySem.W.Frag}
theorem lm_append : LRM K Γ rdAppend rAppend := by
  refine ⟨fun x xs h Q Q' k w => ?_, fun x v xs vs H h C Q rv r rm w k => ?_⟩
  · unfold rdAppend at w ⊢
    split at w
    · split at w
      · split at w
        · exact ⟨w.1, k _ _ w.2⟩
        · exact w
      · exact w
    · exact w
  · unfold rdAppend at w
    split at w
    · obtain ⟨u, rfl, ru⟩ := rvs1 r
      split at w
      · rename_i d h1 e1
        split at w
        · rename_i a ds e2
          obtain ⟨ex, ea⟩ := ownL_ok e2
          subst ex
          obtain ⟨px, rm1, rd⟩ := fz1_ok ru rm e1
          have ev : v = .ref a := rv
          subst ev
          obtain ⟨ws, f1, f2⟩ := rm1.ob a _ ea
          refine ⟨a, ws, u, rfl, rfl, f1, by rw [dps_len f2]; exact w.1, ?_⟩
          exact k _ _ _ _ (px.trans (put_px ea rm1)) rv_non (put_rm ea rm1 (dps_app f2 (.cons rd .nil))) w.2
        · exact w.elim
      · exact w.elim
    · exact w.elim
theorem lm_popAt : LRM K Γ rdPopAt rPopAt := by
  refine ⟨fun x xs h Q Q' k w => ?_, fun x v xs vs H h C Q rv r rm w k => ?_⟩
  · unfold rdPopAt at w ⊢
    split at w
    · split at w
      · split at w
        · split at w
          · split at w
            · exact ⟨w.1, k _ _ w.2⟩
            · exact w
          · exact w
        · exact w
      · exact w
    · exact w
  · unfold rdPopAt at w
    split at w
    · obtain ⟨u, rfl, ru⟩ := rvs1 r
      split at w
      · rename_i i e1
        split at w
        · rename_i a ds e2
          split at w
          · rename_i j e3
            split at w
            · rename_i d e4
              obtain ⟨ex, ea⟩ := ownL_ok e2
              subst ex
              have ev : v = .ref a := rv
              subst ev
              obtain ⟨ws, f1, f2⟩ := rm.ob a _ ea
              obtain ⟨y, g1, g2⟩ := dps_get f2 e4
              have px : PX Γ H h (upd H a (.lst (ws.eraseIdx j))) (mput h a (.lst (ds.eraseIdx j))) := put_px ea rm
              exact ⟨a, ws, i, j, y, rfl, by rw [asInt_ok ru e1], f1, w.1.1, w.1.2, by rw [dps_len f2]; exact e3, g1,
                k _ _ _ _ px (show RV K Γ _ _ (.d d) y from dp_up px.ex _ _ g2) (put_rm ea rm (dps_erase j f2)) w.2⟩
            · exact w.elim
          · exact w.elim
        · exact w.elim
      · exact w.elim
    · exact w.elim
theorem dps_dropLast {H : Hp} {ds : List PyData} {vs : List V} (h : DpAll K H vs ds) : DpAll K H vs.dropLast ds.dropLast := by
  rw [List.dropLast_eq_take, List.dropLast_eq_take, dps_len h]
  exact dps_take _ h
theorem lm_pop : LRM K Γ rdPop rPop := by
  refine ⟨fun x xs h Q Q' k w => ?_, fun x v xs vs H h C Q rv r rm w k => ?_⟩
  · unfold rdPop at w ⊢
    split at w
    · split at w
      · split at w
        · exact k _ _ w
        · exact w
      · exact w
    · exact w
  · unfold rdPop at w
    split at w
    · cases r
      split at w
      · rename_i a ds e2
        split at w
        · rename_i d e4
          obtain ⟨ex, ea⟩ := ownL_ok e2
          subst ex
          have ev : v = .ref a := rv
          subst ev
          obtain ⟨ws, f1, f2⟩ := rm.ob a _ ea
          obtain ⟨y, g1, g2⟩ := dps_get f2 e4
          have px : PX Γ H h (upd H a (.lst ws.dropLast)) (mput h a (.lst ds.dropLast)) := put_px ea rm
          exact ⟨a, ws, y, rfl, rfl, f1, by rw [dps_len f2]; exact g1,
            k _ _ _ _ px (show RV K Γ _ _ (.d d) y from dp_up px.ex _ _ g2) (put_rm ea rm (dps_dropLast f2)) w⟩
        · exact w.elim
      · exact w.elim
    · exact w.elim
theorem lm_index : LRM K Γ rdIndex (rIndexD K) := by
  refine ⟨fun x xs h Q Q' k w => ?_, fun x v xs vs H h C Q rv r rm w k => ?_⟩
  · unfold rdIndex at w ⊢
    split at w
    · split at w
      · split at w
        · exact ⟨w.1, w.2.1, k _ _ w.2.2⟩
        · exact w
      · exact w
    · exact w
  · unfold rdIndex at w
    split at w
    · obtain ⟨u, rfl, ru⟩ := rvs1 r
      split at w
      · rename_i ds d e1 e2
        split at w
        · rename_i j e3
          have rd := asD_ok rv rm (asL_D e1)
          have ry := asD_ok ru rm e2
          obtain ⟨hj, hp, hn⟩ := List.findIdx?_eq_some_iff_getElem.mp e3
          cases rd with
          | @lst a zs _ q1 q2 =>
            refine ⟨a, u, d, ds, j, ds[j], rfl, rfl, .lst q1 q2, ry, w.1, w.2.1, List.getElem?_eq_getElem hj, hp, fun m z' hm hz => ?_, k _ _ _ H PX.refl rv_int rm w.2.2⟩
            obtain ⟨hl, hz'⟩ := List.getElem?_eq_some_iff.mp hz
            subst hz'
            simpa using hn m hm
        · exact w.elim
      · exact w.elim
    · exact w.elim
/-- xs.extend(ys), ys any list -/
def rExtG (K : PySem.W.Frag) : V → List V → Hp → VK → Prop := fun x vs H Q => ∃ l b xs zs, x = .ref l ∧ vs = [.ref b] ∧ H l = some (.lst xs) ∧ H b = some (.lst zs) ∧ xs.length + zs.length ≤ sizeLine ∧ Q .non (upd H l (.lst (xs ++ zs)))
end
end DL

namespace DL
open PySem PySem.Spec PyProof.Rows L2
set_option autoImplicit true

theorem DF.toOwn {X : Cx} {e : Expr} {t : DTF} (f : DF X Γ e t) : DE X Γ e (fun σ h Q => t σ h fun ds h1 => ∀ p, h1 p = none → Q (.own p) (mput h1 p (.lst ds))) :=
  ⟨fun σ h Q Q' k w => f.mono _ _ _ _ (fun ds h1 w1 p hp => k _ _ (w1 p hp)) w, pe_imp f.pe fun σ H Q ⟨σd, h, rs, rm, w⟩ => ⟨σd, h, rs, rm, f.mono _ _ _ _ (fun ds h' q ws H' p px hd rm' n => by
    exact q p (rm'.tracked n) _ _ (px.trans (own_px n (rm'.tracked n) (rm'.notx n))) rfl (own_rm n rm' hd)) w⟩⟩
def dOwn (t : DTF) : DTE := fun σ h Q => t σ h fun ds h1 => ∀ p, h1 p = none → Q (.own p) (mput h1 p (.lst ds))

/-! ## statements -/
structure DEnds where
  nx : DSt → MH → Prop
  rt : DK
  bk : DSt → MH → Prop
  ct : DSt → MH → Prop
structure DEnds.Le (D D' : DEnds) : Prop where
  nx : ∀ σ h, D.nx σ h → D'.nx σ h
  rt : ∀ x h, D.rt x h → D'.rt x h
  bk : ∀ σ h, D.bk σ h → D'.bk σ h
  ct : ∀ σ h, D.ct σ h → D'.ct σ h
abbrev DTS := DEnds → DSt → MH → Prop
def liftE (K : PySem.W.Frag) (Γ : GI) (H0 : Hp) (h0 : MH) (D : Ends) : DEnds where
  nx := fun σd h => ∀ σ H, PX Γ H0 h0 H h → RSt K Γ H h σd σ → RM K Γ H h → D.nx σ H
  rt := fun x h => ∀ v H, PX Γ H0 h0 H h → RV K Γ H h x v → RM K Γ H h → D.rt v H
  bk := fun σd h => ∀ σ H, PX Γ H0 h0 H h → RSt K Γ H h σd σ → RM K Γ H h → D.bk σ H
  ct := fun σd h => ∀ σ H, PX Γ H0 h0 H h → RSt K Γ H h σd σ → RM K Γ H h → D.ct σ H
def liftS (K : PySem.W.Frag) (Γ : GI) (t : DTS) : TS := fun D σ H => ∃ σd h, RSt K Γ H h σd σ ∧ RM K Γ H h ∧ t (liftE K Γ H h D) σd h
def MonoS (t : DTS) : Prop := ∀ D D' σ h, DEnds.Le D D' → t D σ h → t D' σ h
structure DS (X : Cx) (Γ : GI) (st : Stmt) (t : DTS) : Prop where
  mono : MonoS t
  ps : PS X st (liftS X.K Γ t)
structure DSs (X : Cx) (Γ : GI) (st : List Stmt) (t : DTS) : Prop where
  mono : MonoS t
  ps : PSs X st (liftS X.K Γ t)
theorem liftE_up {K : PySem.W.Frag} {H0 H1 : Hp} {h0 h1 : MH} {D : Ends} (p : PX Γ H0 h0 H1 h1) : DEnds.Le (liftE K Γ H0 h0 D) (liftE K Γ H1 h1 D) :=
  ⟨fun _ _ w σ H q => w σ H (p.trans q), fun _ _ w v H q => w v H (p.trans q), fun _ _ w σ H q => w σ H (p.trans q), fun _ _ w σ H q => w σ H (p.trans q)⟩
theorem le_refl {D : DEnds} : DEnds.Le D D := ⟨fun _ _ w => w, fun _ _ w => w, fun _ _ w => w, fun _ _ w => w⟩

section
variable {X : Cx} {a b c e : Expr} {pos p2 : Pos} {ta tb tc te : DTE} {t u : DTS} {st : Stmt} {rest : List Stmt} {es : List Expr}
def dNext : DTS := fun D σ h => D.nx σ h
def dSeq (t u : DTS) : DTS := fun D σ h => t { D with nx := fun σ' h' => u D σ' h' } σ h
theorem mono_seq (mt : MonoS t) (mu : MonoS u) : MonoS (dSeq t u) := fun D D' σ h l w => by
  refine mt _ _ _ _ ?_ w
  exact ⟨fun σ' h' w' => mu _ _ _ _ l w', l.rt, l.bk, l.ct⟩
theorem dss_nil : DSs X Γ [] dNext := ⟨fun D D' σ h l w => l.nx _ _ w, pss_imp pss_nil fun D σ H ⟨σd, h, rs, rm, w⟩ => w σ H PX.refl rs rm⟩
theorem dss_cons (h1 : DS X Γ st t) (h2 : DSs X Γ rest u) : DSs X Γ (st :: rest) (dSeq t u) :=
  ⟨mono_seq h1.mono h2.mono, pss_imp (pss_cons h1.ps h2.ps) fun D σ H ⟨σd, h, rs, rm, w⟩ => ⟨σd, h, rs, rm, by
    refine h1.mono _ _ _ _ ?_ w
    exact ⟨fun σd' h' w' σ' H' px rs' rm' => ⟨σd', h', rs', rm', h2.mono _ _ _ _ (liftE_up px) w'⟩, fun _ _ w' => w', fun _ _ w' => w', fun _ _ w' => w'⟩⟩⟩
theorem dss_one (h1 : DS X Γ st t) : DSs X Γ [st] t := ⟨h1.mono, pss_one h1.ps⟩
def dBreak : DTS := fun D σ h => D.bk σ h
def dCont : DTS := fun D σ h => D.ct σ h
theorem ds_pass : DS X Γ (.Pass pos) dNext := ⟨fun D D' σ h l w => l.nx _ _ w, ps_imp ps_pass fun D σ H ⟨σd, h, rs, rm, w⟩ => w σ H PX.refl rs rm⟩
theorem ds_break : DS X Γ (.Break pos) dBreak := ⟨fun D D' σ h l w => l.bk _ _ w, ps_imp ps_break fun D σ H ⟨σd, h, rs, rm, w⟩ => w σ H PX.refl rs rm⟩
theorem ds_continue : DS X Γ (.Continue pos) dCont := ⟨fun D D' σ h l w => l.ct _ _ w, ps_imp ps_continue fun D σ H ⟨σd, h, rs, rm, w⟩ => w σ H PX.refl rs rm⟩
def dDrop (te : DTE) : DTS := fun D σ h => te σ h fun _ h1 => D.nx σ h1
theorem ds_expr (he : DE X Γ e te) (hs : swapsWith e none pos.line X.env = pure false := by rfl) : DS X Γ (.Expr e pos) (dDrop te) :=
  ⟨fun D D' σ h l w => he.mono _ _ _ _ (fun _ _ w' => l.nx _ _ w') w, ps_imp (ps_expr he.pe hs) fun D σ H ⟨σd, h, rs, rm, w⟩ => lift_mk he.mono rs rm w fun x h1 v H1 px rs1 rv rm1 w1 => w1 σ H1 px rs1 rm1⟩
def dRet (te : DTE) : DTS := fun D σ h => te σ h D.rt
theorem ds_ret (he : DE X Γ e te) : DS X Γ (.Return (some e) pos) (dRet te) :=
  ⟨fun D D' σ h l w => he.mono _ _ _ _ (fun _ _ w' => l.rt _ _ w') w, ps_imp (ps_ret he.pe) fun D σ H ⟨σd, h, rs, rm, w⟩ => lift_mk he.mono rs rm w fun x h1 v H1 px rs1 rv rm1 w1 => w1 v H1 px rv rm1⟩
/-- return of one's own list as data -/
def dRetF (te : DTE) : DTS := fun D σ h => te σ h fun x h1 => match fz1 x h1 with
  | some (d, h2) => D.rt (.d d) h2
  | none => False
theorem ds_retF (he : DE X Γ e te) : DS X Γ (.Return (some e) pos) (dRetF te) :=
  ⟨fun D D' σ h l w => he.mono _ _ _ _ (fun _ _ w' => by
    split at w'
    · exact l.rt _ _ w'
    · exact w') w, ps_imp (ps_ret he.pe) fun D σ H ⟨σd, h, rs, rm, w⟩ => lift_mk he.mono rs rm w fun x h1 v H1 px rs1 rv rm1 w1 => by
      split at w1
      · rename_i d h2 e1
        obtain ⟨p1, r1, d1⟩ := fz1_ok rv rm1 e1
        exact w1 v H1 (px.trans p1) d1 r1
      · exact w1.elim⟩
def dRetN : DTS := fun D _ h => D.rt (.d .none) h
theorem ds_retN : DS X Γ (.Return none pos) dRetN := ⟨fun D D' σ h l w => l.rt _ _ w, ps_imp ps_retN fun D σ H ⟨σd, h, rs, rm, w⟩ => w .non H PX.refl rv_non rm⟩
def dIfS (c : DTT) (t u : DTS) : DTS := fun D σ h => c σ h fun b h1 => if b = true then t D σ h1 else u D σ h1
theorem mono_ifS {c : DTT} (mc : Mono c) (mt : MonoS t) (mu : MonoS u) : MonoS (dIfS c t u) := fun D D' σ h l w => mc _ _ _ _ (fun b h1 w1 => by
  cases b with
  | true => exact mt _ _ _ _ l w1
  | false => exact mu _ _ _ _ l w1) w
theorem ds_if {c : Expr} {a b : List Stmt} {tc : DTT} (hc : DT X Γ c tc) (ha : DSs X Γ a t) (hb : DSs X Γ b u) : DS X Γ (.If c a b pos) (dIfS tc t u) :=
  ⟨mono_ifS hc.mono ha.mono hb.mono, ps_imp (ps_if hc.pt ha.ps hb.ps) fun D σ H ⟨σd, h, rs, rm, w⟩ => lift_mk hc.mono rs rm w fun b h1 k H1 px rs1 rv rm1 w1 => by
    subst rv
    cases b with
    | true => exact iteT ⟨σd, h1, rs1, rm1, ha.mono _ _ _ _ (liftE_up px) w1⟩
    | false => exact iteF ⟨σd, h1, rs1, rm1, hb.mono _ _ _ _ (liftE_up px) w1⟩⟩
def dNever : DTS := fun _ _ _ => False
theorem ds_never : DS X Γ st dNever := ⟨fun _ _ _ _ _ w => w, ps_imp ps_never fun _ _ _ ⟨_, _, _, _, w⟩ => w⟩

/-! ## targets -/
inductive Tg where
  | nm (i : Nat)
  | tup (is : List Nat)
  | star (is : List Nat) (z : Nat)
def Tg.isStar : Tg → Bool
  | .star _ _ => true
  | _ => false
/-- (a, b, .., *r) = a tuple: n names ahead of the star, a new list of the others -/
def gStar (K : PySem.W.Frag) (n : Nat) (t : TGs) : TG := fun v σ H Q => ∃ a xs, v = .ref a ∧ SqT K H a xs ∧ n ≤ xs.length ∧ ∀ D, H D = none → t (xs.take n ++ [.ref D]) σ (upd H D (.lst (xs.drop n))) Q
def rawGs : List Nat → TGs
  | [] => gNil
  | i :: r => gCons (gName i) (rawGs r)
def rawT (K : PySem.W.Frag) : Tg → TG
  | .nm i => gName i
  | .tup is => gTup K is.length (rawGs is)
  | .star is z => gStar K is.length (rawGs (is ++ [z]))
def setAll : List Nat → List PyData → DSt → DSt
  | i :: r, d :: ds, σ => setAll r ds (σ.set i (some (.d d)))
  | _, _, σ => σ
def bindT (g : Tg) (x : SV) (σ : DSt) : Option DSt := match g with
  | .nm i => some (σ.set i (some x))
  | .tup is => match x with
    | .d (.tuple ds) => if ds.length = is.length then some (setAll is ds σ) else none
    | _ => none
  | .star is z => match x with
    | .d (.tuple ds) => if is.length ≤ ds.length then some (setAll (is ++ [z]) (ds.take is.length ++ [.list (ds.drop is.length)]) σ) else none
    | _ => none
def Tg.ix : Tg → List Nat
  | .nm i => [i]
  | .tup is => is
  | .star is z => is ++ [z]
theorem wipe_at {i : Nat} {o : Option V} : ∀ (vs : List Nat) (σ : L2.St), (wipe (σ.set i o) vs).set i none = (wipe σ vs).set i none
  | [], σ => by
    show (σ.set i o).set i none = σ.set i none
    rw [List.set_set]
  | k :: r, σ => by
    show ((wipe (σ.set i o) r).set k none).set i none = ((wipe σ r).set k none).set i none
    by_cases e : k = i
    · subst e
      rw [List.set_set, List.set_set]
      exact wipe_at r σ
    · rw [List.set_comm _ _ e, wipe_at r σ, List.set_comm _ _ e]
theorem wipe_set {σ : L2.St} {i : Nat} {o : Option V} : ∀ {vs : List Nat}, i ∈ vs → wipe (σ.set i o) vs = wipe σ vs
  | [], h => by cases h
  | j :: r, h => by
    show (wipe (σ.set i o) r).set j none = (wipe σ r).set j none
    by_cases e : i = j
    · subst e; exact wipe_at r σ
    · rw [wipe_set (vs := r) (by rcases List.mem_cons.mp h with z | z; exact absurd z e; exact z)]
theorem wipe_wipe {σ : L2.St} : ∀ {vs : List Nat}, wipe (wipe σ vs) vs = wipe σ vs
  | [] => rfl
  | j :: r => by
    show (wipe ((wipe σ r).set j none) r).set j none = (wipe σ r).set j none
    rw [wipe_at r (wipe σ r), wipe_wipe (vs := r)]
theorem rawGs_ok {K : PySem.W.Frag} {H : Hp} {h : MH} {Q : L2.St → Hp → Prop} : ∀ {is : List Nat} {vs : List V} {ds : List PyData} {σd : DSt} {σ : L2.St}, DpAll K (Fz Γ H h) vs ds → ds.length = is.length → RSt K Γ H h σd σ →
    (∀ σ', RSt K Γ H h (setAll is ds σd) σ' → (∀ l, (∀ i ∈ is, i ∈ l) → wipe σ' l = wipe σ l) → Q σ' H) → rawGs is vs σ H Q
  | [], _, [], _, _, hd, _, rs, k => by cases hd; exact ⟨rfl, k _ rs fun _ _ => rfl⟩
  | [], _, _ :: _, _, _, _, hl, _, _ => by simp at hl
  | _ :: _, _, [], _, _, _, hl, _, _ => by simp at hl
  | i :: r, _, d :: ds, σd, σ, hd, hl, rs, k => by
    cases hd with
    | cons h1 h2 =>
      refine ⟨_, _, rfl, ?_⟩
      exact rawGs_ok h2 (by simpa using hl) (rs.set (show RV K Γ H h (.d d) _ from h1)) fun σ' rs' hw => k σ' rs' fun l hl' => by
        rw [hw l fun j hj => hl' j (List.mem_cons_of_mem _ hj), wipe_set (hl' i List.mem_cons_self)]
theorem rawT_okS {K : PySem.W.Frag} {H : Hp} {h : MH} {g : Tg} {x : SV} {v : V} {σd σd' : DSt} {σ : L2.St} {Q : L2.St → Hp → Prop} (rv : RV K Γ H h x v) (rs : RSt K Γ H h σd σ) (rm : RM K Γ H h) (e : bindT g x σd = some σd')
    (k : ∀ σ' H', PX Γ H h H' h → RM K Γ H' h → RSt K Γ H' h σd' σ' → (∀ l, (∀ i ∈ g.ix, i ∈ l) → wipe σ' l = wipe σ l) → Q σ' H') : rawT K g v σ H Q := by
  cases g with
  | nm i =>
    cases e
    exact k _ _ PX.refl rm (rs.set rv) fun l hl => wipe_set (hl i List.mem_cons_self)
  | tup is =>
    cases x with
    | own _ => cases e
    | d x => cases x with
      | tuple ds =>
        have e' : (if ds.length = is.length then some (setAll is ds σd) else none) = some σd' := e
        by_cases q : ds.length = is.length
        · rw [if_pos q] at e'
          cases e'
          have rv' : Dp K (Fz Γ H h) v (.tuple ds) := rv
          cases rv' with
          | @tup a vs _ h1 h2 =>
            exact ⟨_, _, rfl, sqT_up fz_sub h1, by rw [dps_len h2]; exact q, rawGs_ok h2 q rs fun σ' rs' w => k σ' H PX.refl rm rs' w⟩
        · rw [if_neg q] at e'; cases e'
      | _ => cases e
  | star is z =>
    cases x with
    | own _ => cases e
    | d x => cases x with
      | tuple ds =>
        have e' : (if is.length ≤ ds.length then some (setAll (is ++ [z]) (ds.take is.length ++ [.list (ds.drop is.length)]) σd) else none) = some σd' := e
        by_cases q : is.length ≤ ds.length
        · rw [if_pos q] at e'
          cases e'
          have rv' : Dp K (Fz Γ H h) v (.tuple ds) := rv
          cases rv' with
          | @tup a vs _ h1 h2 =>
            refine ⟨_, _, rfl, sqT_up fz_sub h1, by rw [dps_len h2]; exact q, fun D nD => ?_⟩
            have dd : DpAll K (Fz Γ H h) (vs.drop is.length) (ds.drop is.length) := dps_drop _ h2
            have px : PX Γ H h (upd H D (.lst (vs.drop is.length))) h := rm.px nD
            have rm1 : RM K Γ (upd H D (.lst (vs.drop is.length))) h := RM.new nD rm
            have nl : Dp K (Fz Γ (upd H D (.lst (vs.drop is.length))) h) (.ref D) (.list (ds.drop is.length)) := Dp.lst (SqL.of (Fz.of upd_same (rm.tracked nD) (rm.notx nD))) (dps_up px.ex _ _ dd)
            refine rawGs_ok (dps_app (dps_up px.ex _ _ (dps_take is.length h2)) (.cons nl .nil)) (by simp; omega) (rs.up px) fun σ' rs' w => k σ' _ px rm1 rs' w
        · rw [if_neg q] at e'; cases e'
      | _ => cases e
theorem rawT_ok {K : PySem.W.Frag} {H : Hp} {h : MH} {g : Tg} {x : SV} {v : V} {σd σd' : DSt} {σ : L2.St} {Q : L2.St → Hp → Prop} (ns : g.isStar = false) (rv : RV K Γ H h x v) (rs : RSt K Γ H h σd σ) (e : bindT g x σd = some σd')
    (k : ∀ σ', RSt K Γ H h σd' σ' → (∀ l, (∀ i ∈ g.ix, i ∈ l) → wipe σ' l = wipe σ l) → Q σ' H) : rawT K g v σ H Q := by
  cases g with
  | nm i =>
    cases e
    exact k _ (rs.set rv) fun l hl => wipe_set (hl i List.mem_cons_self)
  | star is z => cases ns
  | tup is =>
    cases x with
    | own _ => cases e
    | d x => cases x with
      | tuple ds =>
        have e' : (if ds.length = is.length then some (setAll is ds σd) else none) = some σd' := e
        by_cases q : ds.length = is.length
        · rw [if_pos q] at e'
          cases e'
          have rv' : Dp K (Fz Γ H h) v (.tuple ds) := rv
          cases rv' with
          | @tup a vs _ h1 h2 =>
            exact ⟨_, _, rfl, sqT_up fz_sub h1, by rw [dps_len h2]; exact q, rawGs_ok h2 q rs k⟩
        · rw [if_neg q] at e'; cases e'
      | _ => cases e
structure DG (X : Cx) (tg : Expr) (g : Tg) : Prop where
  pg : PG X tg (rawT X.K g)
structure DGs (X : Cx) (tg : List Expr) (is : List Nat) : Prop where
  pg : PGs X tg (rawGs is)
theorem dg_nm (i : Nat) {x : Str} (hN : X.N.Nodup) (hi : X.N[i]? = some x := by rfl) (hx : Loc X.env.scope x := by first | exact Or.inl rfl | exact Or.inr rfl) (hf : X.fn x = true ∨ X.env.scope.names.lookup x = some .local := by first | exact .inl rfl | exact .inr rfl) : DG X (.Name x pos) (.nm i) := ⟨pg_name hN hi hx hf⟩
theorem dgs_nil : DGs X [] [] := ⟨pgs_nil⟩
theorem dgs_cons {tg : Expr} {tgs : List Expr} {i : Nat} {is : List Nat} (h1 : DG X tg (.nm i)) (h2 : DGs X tgs is) (hs : (assignEach (tg :: tgs) X.env).map (·.2) = assign tg X.env :: (assignEach tgs X.env).map (·.2) := by rfl) : DGs X (tg :: tgs) (i :: is) := ⟨pgs_cons h1.pg h2.pg hs⟩
theorem dg_tup {k : Nat} {is : List Nat} (hc : X.calm = true) (h : DGs X es is) (hn : (assignEach es X.env).length = is.length := by rfl) (hst : (assignEach es X.env).findIdx? (·.1) = none := by rfl) : DG X (.Tuple es k pos) (.tup is) := ⟨pg_tup hc h.pg hn hst⟩

/-! a star at a tuple target's end, from the model -/
section
variable {prog : Program} {w : World} {A : Around} {EX : Value → Shared → Prop} {s : Shared} {env : Env}
theorem star_items {t : Addr} {its : Array Value} {m : Nat} {Q : List Value → Shared → Prop} (tt : IsTup s.heap t its) (calm : A.handled = none) (fits : m ≤ its.size) (bound : its.size ≤ sizeLine)
    (k : ∀ (hz : Heap) (tk : Nat), (∀ b u, s.heap.get? b = some u → hz.get? b = some u) → Q (its.toList.take m ++ [.ref hz.objs.size] ++ []) { s with heap := hz.push { cls := .type "list", data := .seq (its.toList.drop m).toArray }, toks := tk }) :
    wpAny (model prog w) A (unpackItems (.ref t) (m + 1) (some m)) Q EX s := by
  obtain ⟨ot, hot, _⟩ := id tt
  have lt := Heap.lt_size hot
  have apart : t ≠ s.heap.objs.size := Nat.ne_of_lt lt
  unfold unpackItems
  refine wpAny_bind ?_
  unfold notIterableAtAll
  refine wpAny_bind (wpAny_specialOf tt.typeIs slot_tuple_iter.lookup (wpAny_pure ?_))
  rw [if_neg (by decide)]
  refine wpAny_bind (wpAny_holding (iter_tuple tt ?_))
  refine wpAny_bind (wpAny_holding (draw_tuple apart m 0 _ _ ⟨_, Heap.get?_push_size _ rfl, rfl, rfl⟩ (tt.push _) (by omega) fun ha ita sa => ?_))
  have tta : IsTup ha t its := (tt.push _).extBut sa.extBut apart
  rw [Nat.zero_add] at ita
  rw [List.drop_zero]
  have fl : (its.toList.take m).length = m := by
    rw [List.length_take, Array.length_toList]
    omega
  obtain ⟨oi, hoi, _⟩ := id ita
  obtain ⟨ol, hol, _⟩ := id tta
  rw [if_neg (show ¬ ((its.toList.take m).length < m) by omega)]
  refine wpAny_bind (wpAny_holding (PySem.W.kun_collect (s := { s with heap := ha }) (T := "tuple_iterator") (.inr (.inr (.inr rfl))) (Walks.tuple (A := A.in1) calm s.heap.objs.size t apart its) (fun j u st => st.1.typeIs) (k := m) fits ⟨ita, tta⟩ (Heap.lt_size hoi) (Heap.lt_size hol) (fun hb tk kb => ?_) bound))
  have rl : (its.toList.drop m).length = its.size - m := by rw [List.length_drop, Array.length_toList]
  show wpAny _ _ (if (its.toList.drop m).length < m + 1 - 1 - m then _ else _) _ _ _
  rw [if_neg (by omega)]
  show wpAny _ _ (newList ((its.toList.drop m).take ((its.toList.drop m).length - (m + 1 - 1 - m))) >>= fun d => pure (its.toList.take m ++ [d] ++ (its.toList.drop m).drop ((its.toList.drop m).length - (m + 1 - 1 - m)))) _ _ _
  have z : (its.toList.drop m).length - (m + 1 - 1 - m) = (its.toList.drop m).length := by omega
  rw [z, List.take_length, List.drop_length]
  refine wpAny_bind (wpAny_newList (wpAny_pure ?_) (by rw [rl]; omega))
  exact k hb tk fun b u e => kb b u (Nat.ne_of_lt (Heap.lt_size e)) (sa.extBut b u (Nat.ne_of_lt (Heap.lt_size e)) (Heap.get?_push_of_some _ e))
end
theorem pg_star {es : List Expr} {k m : Nat} {t : TGs} {pos : Pos} (calm : X.calm = true) (h : PGs X es t) (hn : (assignEach es X.env).length = m + 1 := by rfl) (hs : (assignEach es X.env).findIdx? (·.1) = some m := by rfl) : PG X (.Tuple es k pos) (gStar X.K m t) := by
  refine ⟨fun pins s σ H v u Q I r hw => ?_⟩
  obtain ⟨a, xs, rfl, hq, hl, hw⟩ := hw
  cases r
  obtain ⟨its, rv, tt, sz⟩ := I.tuple hq
  have len := rv.length
  rw [assign_Tuple]
  refine wpAny_bind (wpAny_standAt ?_)
  unfold unpack
  rw [hn, hs]
  refine wpAny_bind (wpAny_holding (star_items tt (I.ok.hd calm) (by rw [List.size_toArray]; omega) (by rw [List.size_toArray]; omega) fun hz tk kp => ?_))
  have I1 : Inv X pins σ H { s with heap := hz, toks := tk } := I.kept kp
  have nD : H hz.objs.size = none := I1.hok.fresh (Nat.le_refl _)
  have I2 : Inv X pins σ (upd H hz.objs.size (.lst (xs.drop m))) { s with heap := hz.push { cls := .type "list", data := .seq (its.drop m).toArray }, toks := tk } :=
    I1.laid (t' := tk) (fun b u e => Heap.get?_push_of_some _ e) (Nat.le_refl _) ⟨by rw [List.length_drop]; omega, its.drop m, 0, rv.drop m, Heap.get?_push_size _ rfl⟩
  rw [List.append_nil]
  refine h.run pins _ σ _ (xs.take m ++ [.ref hz.objs.size]) _ Q ?_ (Vals.append (rv.take m) (.cons (show RelV (.ref hz.objs.size) (.ref hz.objs.size) from rfl) .nil)) (hw _ nD)
  exact I2
theorem dgs_star {t : Expr} {p : Pos} {i : Nat} (h1 : DG X t (.nm i)) (hs : (assignEach [.Starred t p] X.env).map (·.2) = (assignEach [t] X.env).map (·.2) := by rfl) (hs2 : (assignEach [t] X.env).map (·.2) = assign t X.env :: (assignEach [] X.env).map (·.2) := by rfl) : DGs X [.Starred t p] [i] :=
  ⟨⟨fun pins s σ H vs us Q I r hw => by
    rw [hs]
    exact (pgs_cons h1.pg pgs_nil hs2).run pins s σ H vs us Q I r hw⟩⟩
theorem dg_star {k z : Nat} {is js : List Nat} (hc : X.calm = true) (h : DGs X es js) (hj : js = is ++ [z] := by rfl) (hn : (assignEach es X.env).length = is.length + 1 := by rfl) (hst : (assignEach es X.env).findIdx? (·.1) = some is.length := by rfl) : DG X (.Tuple es k pos) (.star is z) := by
  subst hj
  exact ⟨pg_star hc h.pg hn hst⟩

/-- target = value -/
def dAsg (te : DTE) (g : Tg) : DTS := fun D σ h => te σ h fun x h1 => match bindT g x σ with
  | some σ' => D.nx σ' h1
  | none => False
theorem mono_asg {g : Tg} (me : Mono te) : MonoS (dAsg te g) := fun D D' σ h l w => me _ _ _ _ (fun x h1 w1 => by
  split at w1
  · exact l.nx _ _ w1
  · exact w1) w
theorem asg_lift {K : PySem.W.Frag} {g : Tg} (me : Mono te) : ∀ D σ H, liftS K Γ (dAsg te g) D σ H → tAsg (liftV K Γ te) (rawT K g) D σ H := fun D σ H ⟨σd, h, rs, rm, w⟩ =>
  lift_mk me rs rm w fun x h1 v H1 px rs1 rv rm1 w1 => by
    split at w1
    · rename_i σ' e1
      exact rawT_okS rv rs1 rm1 e1 fun σr H2 px2 rm2 rs' _ => w1 σr H2 (px.trans px2) rs' rm2
    · exact w1.elim
theorem ds_asg {tg : Expr} {g : Tg} (he : DE X Γ e te) (hg : DG X tg g) (hs : swapsWithSole [tg] e pos.line X.env = pure false := by rfl) (hw : swappedStores [tg] e X.env = pure none := by rfl)
    (h1 : (assignEach [tg] X.env).map (·.2) = [assign tg X.env] := by rfl) : DS X Γ (.Assign [tg] e pos) (dAsg te g) :=
  ⟨mono_asg he.mono, ps_imp (ps_asg he.pe hg.pg hs hw h1) (asg_lift he.mono)⟩
/-- name = value -/
theorem ds_set (i : Nat) {x : Str} {pos' : Pos} (hN : X.N.Nodup) (he : DE X Γ e te) (hi : X.N[i]? = some x := by rfl) (hx : Loc X.env.scope x := by first | exact Or.inl rfl | exact Or.inr rfl) (hs : swapsWith e (some (.Name x pos')) pos.line X.env = pure false := by rfl)
    (hf : X.fn x = true ∨ X.env.scope.names.lookup x = some .local := by first | exact .inl rfl | exact .inr rfl) : DS X Γ (.Assign [.Name x pos'] e pos) (dAsg te (.nm i)) :=
  ⟨mono_asg he.mono, ps_imp (ps_set hN hi hx he.pe hs hf) (asg_lift (g := .nm i) he.mono)⟩
/-- a, b = x, y -/
def dPar (i j : Nat) (ta : DTA) : DTS := fun D σ h => ta σ h fun xs h1 => match xs with
  | [x, y] => D.nx ((σ.set i (some x)).set j (some y)) h1
  | _ => False
theorem ds_par {i j : Nat} {x y : Str} {a b : Expr} {ta : DTA} {px py pt : Pos} {kt k2 pt2} (hc : X.calm = true) (hN : X.N.Nodup) (ha : DA X Γ [a, b] ta) (hi : X.N[i]? = some x := by rfl) (hj : X.N[j]? = some y := by rfl) (hij : i ≠ j := by decide)
    (hx : X.env.scope.names.lookup x = some .local := by rfl) (hy : X.env.scope.names.lookup y = some .local := by rfl)
    (hw : swappedStores [.Tuple [.Name x px, .Name y py] kt pt] (.Tuple [a, b] k2 pt2) X.env = pure (some [x, y]) := by rfl)
    (hs : swapsWithSole [.Tuple [.Name x px, .Name y py] kt pt] (.Tuple [a, b] k2 pt2) pos.line X.env = pure false := by rfl) :
    DS X Γ (.Assign [.Tuple [.Name x px, .Name y py] kt pt] (.Tuple [a, b] k2 pt2) pos) (dPar i j ta) :=
  ⟨fun D D' σ h l w => ha.mono _ _ _ _ (fun xs h1 w1 => by
    split at w1
    · exact l.nx _ _ w1
    · exact w1) w, ps_imp (ps_par hc hN hi hj hij hx hy ha.pa hw hs) fun D σ H ⟨σd, h, rs, rm, w⟩ => lift_mk ha.mono rs rm w fun xs h1 vs H1 px rs1 rvs rm1 w1 => by
      split at w1
      · obtain ⟨v, u, rfl, rv, ru⟩ := rvs2 rvs
        exact ⟨v, u, rfl, w1 _ H1 px ((rs1.set rv).set ru) rm1⟩
      · exact w1.elim⟩
def dPar3 (i j l : Nat) (ta : DTA) : DTS := fun D σ h => ta σ h fun xs h1 => match xs with
  | [x, y, z] => D.nx (((σ.set i (some x)).set j (some y)).set l (some z)) h1
  | _ => False
theorem ds_par3 {i j l : Nat} {x y z : Str} {a b c : Expr} {ta : DTA} {px py pz pt : Pos} {kt k2 pt2} (hc : X.calm = true) (hN : X.N.Nodup) (ha : DA X Γ [a, b, c] ta) (hi : X.N[i]? = some x := by rfl) (hj : X.N[j]? = some y := by rfl) (hl : X.N[l]? = some z := by rfl) (hij : i ≠ j := by decide) (hil : i ≠ l := by decide) (hjl : j ≠ l := by decide)
    (hx : X.env.scope.names.lookup x = some .local := by rfl) (hy : X.env.scope.names.lookup y = some .local := by rfl) (hz : X.env.scope.names.lookup z = some .local := by rfl)
    (hw : swappedStores [.Tuple [.Name x px, .Name y py, .Name z pz] kt pt] (.Tuple [a, b, c] k2 pt2) X.env = pure (some [x, y, z]) := by rfl)
    (hs : swapsWithSole [.Tuple [.Name x px, .Name y py, .Name z pz] kt pt] (.Tuple [a, b, c] k2 pt2) pos.line X.env = pure false := by rfl) :
    DS X Γ (.Assign [.Tuple [.Name x px, .Name y py, .Name z pz] kt pt] (.Tuple [a, b, c] k2 pt2) pos) (dPar3 i j l ta) :=
  ⟨fun D D' σ h l w => ha.mono _ _ _ _ (fun xs h1 w1 => by
    split at w1
    · exact l.nx _ _ w1
    · exact w1) w, ps_imp (ps_par3 hc hN hi hj hl hij hil hjl hx hy hz ha.pa hw hs) fun D σ H ⟨σd, h, rs, rm, w⟩ => lift_mk ha.mono rs rm w fun xs h1 vs H1 px rs1 rvs rm1 w1 => by
      split at w1
      · cases rvs with
        | cons rv t => cases t with
          | cons ru t => cases t with
            | cons rw' t => cases t; exact ⟨_, _, _, rfl, w1 _ H1 px (((rs1.set rv).set ru).set rw') rm1⟩
      · exact w1.elim⟩
/-- what a store to a subscript makes of what is one's own -/
def setO (o : MO) (i y : SV) : Option MO := match o with
  | .seq xs => match asInt i with
    | some k => match ixN xs.length k with
      | some j => some (.seq (xs.set j y))
      | none => none
    | none => none
  | .dct ps => match asKey i with
    | some k => if Nat.blt ps.length 16777216 = true then some (.dct (putS ps k y)) else none
    | none => none
  | _ => none
theorem pairs_set {α β : Type} {R : α → β → Prop} {a : α} {b : β} (r : R a b) : ∀ {l : List α} {m : List β} (j : Nat), Paired R l m → Paired R (l.set j a) (m.set j b)
  | _, _, _, .nil => .nil
  | _, _, 0, .cons _ t => .cons r t
  | _, _, j + 1, .cons h t => .cons h (pairs_set r j t)
def rSetG (o i v : V) (H : Hp) (Q : Hp → Prop) : Prop := rSetL o i v H Q ∨ rSetD o i v H Q
theorem set_G {X : Cx} (hu : X.A.units + 1 < cLine) : PSet X rSetG := by
  intro pins s σ H o i v ov iv u Q I ro ri rv h
  rcases h with h | h
  · exact set_list pins s σ H o i v ov iv u Q I ro ri rv h
  · exact set_dict hu pins s σ H o i v ov iv u Q I ro ri rv h
theorem setO_ok {K : PySem.W.Frag} {Γ : GI} {H : Hp} {h : MH} {x i y : SV} {u v w : V} {p : Addr × MO} {o : MO} (rm : RM K Γ H h) (rx : RV K Γ H h x u) (ri : RV K Γ H h i v) (ry : RV K Γ H h y w) (e : ownO h x = some p) (e2 : setO p.2 i y = some o) {Q : Hp → Prop}
    (k : ∀ H', PX Γ H h H' (mput h p.1 o) → RM K Γ H' (mput h p.1 o) → Q H') : rSetG u v w H Q := by
  obtain ⟨ex, ea⟩ := ownO_ok e
  subst ex
  have ev : u = .ref p.1 := rx
  subst ev
  have ry' : RVF K (Fz Γ H h) y w := by cases y <;> exact ry
  obtain ⟨u0, f1, f2⟩ := ro_at (rm.ob _ _ ea)
  obtain ⟨a, m⟩ := p
  simp only at e2 k f1 f2 ea
  unfold setO at e2
  split at e2
  · split at e2
    · rename_i j0 e3
      split at e2
      · rename_i j e4
        cases e2
        cases u0 <;> first | exact f2.elim | skip
        rename_i vs
        refine .inl ⟨a, vs, j0, j, rfl, asInt_ok ri e3, f1, by rw [← pairs_len f2]; exact e4, ?_⟩
        exact k _ (put_px ea rm) (put_rmG ea rm (show Paired _ _ _ from pairs_set ry' j f2))
      · cases e2
    · cases e2
  · split at e2
    · rename_i j0 e3
      split at e2
      · rename_i e4
        cases e2
        cases u0 <;> first | exact f2.elim | skip
        rename_i kvs
        refine .inr ⟨a, _, rfl, ?_, k _ (put_px (o := .dK (putK kvs j0 w)) ea rm) (put_rmG ea rm (show Paired _ _ _ from putS_ok f2 ry'))⟩
        rw [asKey_ok ri e3]
        exact DPut.k f1 (by rw [← pairs_len f2, sizeLine_eq]; simpa using e4)
      · cases e2
    · cases e2
  · cases e2
/-- x[i] = e, x one's own -/
def dSetIx (te to ti : DTE) : DTS := fun D σ h => te σ h fun y h1 => to σ h1 fun x h2 => ti σ h2 fun i h3 => match ownO h3 x with
  | some p => match setO p.2 i y with
    | some o => D.nx σ (mput h3 p.1 o)
    | none => False
  | none => match fz1 y h3 with
    | some (d, h4) => match ownL h4 x, asInt i with
      | some (a, ds), some k => match ixN ds.length k with
        | some j => D.nx σ (mput h4 a (.lst (ds.set j d)))
        | none => False
      | _, _ => False
    | none => False
theorem ds_setIx {o i e : Expr} {to ti te : DTE} {p3 : Pos} (hu : X.A.units + 1 < cLine) (he : DE X Γ e te) (ho : DE X Γ o to) (hi : DE X Γ i ti)
    (ha : ∀ v, assign (.Subscript o i p3) X.env v = (do
      let ov ← holding [v] (eval o X.env)
      let iv ← holding [v, ov] (eval i X.env)
      standAt p3
      holding [v, ov, iv] (setItem ov iv v)
      release [v, ov, iv] []) := by intro _; rfl)
    (hs : swapsWithSole [.Subscript o i p3] e pos.line X.env = pure false := by rfl) (hw : swappedStores [.Subscript o i p3] e X.env = pure none := by rfl)
    (h1 : (assignEach [.Subscript o i p3] X.env).map (·.2) = [assign (.Subscript o i p3) X.env] := by rfl) : DS X Γ (.Assign [.Subscript o i p3] e pos) (dSetIx te to ti) :=
  ⟨fun D D' σ h l w => he.mono _ _ _ _ (fun y h1 w1 => ho.mono _ _ _ _ (fun x h2 w2 => hi.mono _ _ _ _ (fun k h3 w3 => by
    split at w3
    · split at w3
      · exact l.nx _ _ w3
      · exact w3
    · split at w3
      · split at w3
        · split at w3
          · exact l.nx _ _ w3
          · exact w3
        · exact w3
      · exact w3) w2) w1) w, ps_imp (ps_asg he.pe (pg_sub ho.pe hi.pe (set_G hu) ha) hs hw h1) fun D σ H ⟨σd, h, rs, rm, w⟩ =>
    lift_mk he.mono rs rm w fun y h1 yv H1 px rs1 ry rm1 w1 => lift_mk ho.mono rs1 rm1 w1 fun x h2 xv H2 px2 rs2 rx rm2 w2 => lift_mk hi.mono rs2 rm2 w2 fun k h3 kv H3 px3 rs3 rk rm3 w3 => by
      split at w3
      · rename_i p e0
        split at w3
        · rename_i o' e1
          exact setO_ok rm3 (rx.up px3) rk ((ry.up px2).up px3) e0 e1 fun H' px5 rm5 => w3 _ _ (((px.trans px2).trans px3).trans px5) (rs3.up px5) rm5
        · exact w3.elim
      · split at w3
        · rename_i d h4 e1
          obtain ⟨p4, rm4, rd⟩ := fz1_ok ((ry.up px2).up px3) rm3 e1
          split at w3
          · rename_i a ds j0 e2 e3
            split at w3
            · rename_i j e4
              obtain ⟨ex, ea⟩ := ownL_ok e2
              subst ex
              have ev : xv = .ref a := rx
              subst ev
              obtain ⟨ws, f1, f2⟩ := rm4.ob a _ ea
              have px5 : PX Γ H3 h4 (upd H3 a (.lst (ws.set j yv))) (mput h4 a (.lst (ds.set j d))) := put_px ea rm4
              refine .inl ⟨a, ws, j0, j, rfl, asInt_ok rk e3, f1, by rw [dps_len f2]; exact e4, ?_⟩
              exact w3 _ _ ((((px.trans px2).trans px3).trans p4).trans px5) ((rs3.up p4).up px5) (put_rm ea rm4 (dps_set j rd f2))
            · exact w3.elim
          · exact w3.elim
        · exact w3.elim⟩
/-- name += e and its like, ints -/
def dAug (i : Nat) (te : DTE) (f : Int → Int → Int) : DTS := fun D σ h => match slot σ i with
  | some x => te σ h fun y h1 => match asInt x, asInt y with
    | some a, some b => D.nx (σ.set i (some (.d (.int (f a b))))) h1
    | _, _ => False
  | none => False
theorem slot_get {σ : DSt} {i : Nat} {y : SV} (hy : slot σ i = some y) : σ[i]? = some (some y) := by
  unfold slot at hy
  cases q : σ[i]? with
  | none => rw [q] at hy; cases hy
  | some o => rw [q] at hy; subst hy; rfl
theorem ds_aug (i : Nat) {x : Str} {op : Operator} {f : Int → Int → Int} {pos' : Pos} (hN : X.N.Nodup) (ho : PIp X op (ipI f)) (he : DE X Γ e te) (hi : X.N[i]? = some x := by rfl) (hx : Loc X.env.scope x := by first | exact Or.inl rfl | exact Or.inr rfl)
    (hf : X.fn x = true ∨ X.env.scope.names.lookup x = some .local := by first | exact .inl rfl | exact .inr rfl) : DS X Γ (.AugAssign (.Name x pos') op e pos) (dAug i te f) :=
  ⟨fun D D' σ h l w => by
    unfold dAug at w ⊢
    split at w
    · exact he.mono _ _ _ _ (fun y h1 w1 => by
        split at w1
        · exact l.nx _ _ w1
        · exact w1) w
    · exact w, ps_imp (ps_aug hN hi hx he.pe ho hf) fun D σ H ⟨σd, h, rs, rm, w⟩ => by
      unfold dAug at w
      split at w
      · rename_i y e1
        obtain ⟨v, e2, rv⟩ := rs.2 i y (slot_get e1)
        refine ⟨v, e2, lift_mk he.mono rs rm w fun z h1 u H1 px rs1 ru rm1 w1 => ?_⟩
        split at w1
        · rename_i a b e3 e4
          exact ⟨a, b, asInt_ok rv e3, asInt_ok ru e4, w1 _ H1 px (rs1.set rv_int) rm1⟩
        · exact w1.elim
      · exact w.elim⟩

/-! ## while -/
def whN (c : DTT) (tb : DTS) (D : DEnds) : Nat → DSt → MH → Prop
  | 0, _, _ => False
  | n + 1, σ, h => c σ h fun b h1 => if b = true then tb { nx := fun σ' h' => whN c tb D n σ' h', ct := fun σ' h' => whN c tb D n σ' h', bk := D.nx, rt := D.rt } σ h1 else D.nx σ h1
def dWhile (c : DTT) (tb : DTS) : DTS := fun D σ h => ∃ n, whN c tb D n σ h
theorem whN_le {c : DTT} {tb : DTS} (mc : Mono c) (mb : MonoS tb) {D D' : DEnds} (l : DEnds.Le D D') : ∀ n σ h, whN c tb D n σ h → whN c tb D' n σ h
  | 0, _, _, w => w
  | n + 1, σ, h, w => mc _ _ _ _ (fun b h1 w1 => by
    cases b with
    | true =>
      refine mb _ _ _ _ ?_ w1
      exact ⟨whN_le mc mb l n, l.rt, l.nx, whN_le mc mb l n⟩
    | false => exact l.nx _ _ w1) w
theorem ds_while {c : Expr} {body : List Stmt} {tc : DTT} {tb : DTS} (hp : PassesOwn (model X.prog X.w) X.A X.env X.xe) (hc : DT X Γ c tc) (hb : DSs X Γ body tb) : DS X Γ (.While c body [] pos) (dWhile tc tb) :=
  ⟨fun D D' σ h l ⟨n, w⟩ => ⟨n, whN_le hc.mono hb.mono l n σ h w⟩, ps_imp (ps_while hp hc.pt hb.ps) fun D σ H ⟨σd, h, rs, rm, n, w⟩ => by
    refine ⟨fun m σ' H' => ∃ σd' h', PX Γ H h H' h' ∧ RSt X.K Γ H' h' σd' σ' ∧ RM X.K Γ H' h' ∧ whN tc tb (liftE X.K Γ H h D) m σd' h', ⟨n, σd, h, PX.refl, rs, rm, w⟩, ?_⟩
    rintro m σ' H' ⟨σd', h', px, rs', rm', w'⟩
    cases m with
    | zero => exact w'.elim
    | succ m =>
      refine lift_mk hc.mono rs' rm' w' fun b h1 k H1 px1 rs1 rv rm1 w1 => ?_
      subst rv
      cases b with
      | false => exact w1 σ' H1 (px.trans px1) rs1 rm1
      | true =>
        refine ⟨fun σ2 H2 => ∃ σd2 h2, PX Γ H h H2 h2 ∧ RSt X.K Γ H2 h2 σd2 σ2 ∧ RM X.K Γ H2 h2 ∧ whN tc tb (liftE X.K Γ H h D) m σd2 h2, fun σ2 H2 z => ⟨m, Nat.lt_succ_self m, z⟩, σd', h1, rs1, rm1, hb.mono _ _ _ _ ?_ w1⟩
        have px2 := px.trans px1
        exact ⟨fun σd2 h2 w2 σ2 H2 q r2 m2 => ⟨σd2, h2, px2.trans q, r2, m2, w2⟩, fun x2 h2 w2 v2 H2 q r2 m2 => w2 v2 H2 (px2.trans q) r2 m2, fun σd2 h2 w2 σ2 H2 q r2 m2 => w2 σ2 H2 (px2.trans q) r2 m2, fun σd2 h2 w2 σ2 H2 q r2 m2 => ⟨σd2, h2, px2.trans q, r2, m2, w2⟩⟩⟩
end
end DL

namespace DL
open PySem PySem.Spec PyProof.Rows L2
set_option autoImplicit true

/-! ## what is walked -/
/-- what the iterator J gives, while what is known (F) stands: the things ds -/
def YD (K : PySem.W.Frag) (F : Hp) (d : PyData) (H : Hp) (x : V) (H' : Hp) : Prop :=
  (H' = H ∧ Dp K F x d) ∨ ∃ T a b da db, x = .ref T ∧ H T = none ∧ H' = upd H T (.tup [a, b]) ∧ d = .tuple [da, db] ∧ Dp K F a da ∧ Dp K F b db
def Gives (K : PySem.W.Frag) (F : Hp) (J : It) (ds : List PyData) : Prop :=
  Walk J ds.length (fun H => Sub F H) fun i H x H' => Sub F H ∧ ∃ d, ds[i]? = some d ∧ YD K F d H x H'
abbrev DTI := DSt → MH → (List PyData → MH → Prop) → Prop
def liftI (K : PySem.W.Frag) (Γ : GI) (w : DTI) : TI := fun σ H R => ∃ σd h, RSt K Γ H h σd σ ∧ RM K Γ H h ∧ w σd h fun ds h' => ∀ J H', PX Γ H h H' h' → RM K Γ H' h' → Gives K (Fz Γ H' h') J ds → R J H'
structure DWk (X : Cx) (Γ : GI) (tg iter : Expr) (w : DTI) : Prop where
  mono : Mono w
  pi : PI X tg iter (liftI X.K Γ w)
theorem pi_imp {X : Cx} {tg e : Expr} {t t' : TI} (p : PI X tg e t) (k : ∀ σ H Q, t' σ H Q → t σ H Q) : PI X tg e t' := ⟨fun pins s σ H Q I w => p.run pins s σ H Q I (k σ H Q w)⟩
theorem gives_list {K : PySem.W.Frag} {F : Hp} {a : Addr} {vs : List V} {ds : List PyData} (h : SqL K F a vs) (r : DpAll K F vs ds) : Gives K F (Itl K a) ds := by
  unfold Gives
  rw [← dps_len r]
  have w0 := walk_list (K := K) (a := a) (xs := vs)
  refine ⟨fun i H hi s => w0.goes i H hi (sqL_up s h), fun H s => w0.stops H (sqL_up s h), fun i H x H' hi s y => ⟨s, ?_⟩⟩
  obtain ⟨e, e2⟩ := w0.yields i H x H' hi (sqL_up s h) y
  obtain ⟨d, e3, e4⟩ := dps_getv r e2
  exact ⟨d, e3, .inl ⟨e, e4⟩⟩
theorem gives_tup {K : PySem.W.Frag} {F : Hp} {a : Addr} {vs : List V} {ds : List PyData} (h : SqT K F a vs) (r : DpAll K F vs ds) : Gives K F (Itt K a) ds := by
  unfold Gives
  rw [← dps_len r]
  have w0 := walk_tup (K := K) (a := a) (xs := vs)
  refine ⟨fun i H hi s => w0.goes i H hi (sqT_up s h), fun H s => w0.stops H (sqT_up s h), fun i H x H' hi s y => ⟨s, ?_⟩⟩
  obtain ⟨e, e2⟩ := w0.yields i H x H' hi (sqT_up s h) y
  obtain ⟨d, e3, e4⟩ := dps_getv r e2
  exact ⟨d, e3, .inl ⟨e, e4⟩⟩
theorem rgD_get {a b : Int} {i : Nat} (h : i < (b - a).toNat) : (rgD a b)[i]? = some (.int (a + (i : Nat))) := by
  unfold rgD
  rw [List.getElem?_map, List.getElem?_range h]
  rfl
theorem rgD_length (a b : Int) : (rgD a b).length = (b - a).toNat := by unfold rgD; rw [List.length_map, List.length_range]
theorem gives_range {K : PySem.W.Frag} {F : Hp} {a b : Int} : Gives K F (Itr a (b - a).toNat) (rgD a b) := by
  unfold Gives
  rw [rgD_length]
  have w0 := walk_range (lo := a) (n := (b - a).toNat)
  refine ⟨fun i H hi _ => w0.goes i H hi trivial, fun H _ => w0.stops H trivial, fun i H x H' hi s y => ⟨s, ?_⟩⟩
  obtain ⟨e, e2⟩ := w0.yields i H x H' hi trivial y
  exact ⟨_, rgD_get hi, .inl ⟨e, by rw [e2]; exact .int _⟩⟩
/-- a list or a tuple -/
def iSq (K : PySem.W.Frag) (tl : TE) : TI := fun σ H R => tl σ H fun x H1 => ∃ a, x = .ref a ∧ ((∃ xs, SqL K H1 a xs ∧ R (Itl K a) H1) ∨ (∃ xs, SqT K H1 a xs ∧ R (Itt K a) H1))
section
variable {X : Cx} {a b c e : Expr} {pos p2 : Pos} {ta tb tc te : DTE} {tg : Expr}
theorem pi_sq {l : Expr} {tl : TE} (hl : PE X l tl) : PI X tg l (iSq X.K tl) := by
  constructor
  intro pins s σ H R I hw
  refine thn (hl.run pins s σ H _ I hw) ?_
  rintro v s1 ⟨x, H1, I1, r1, a, ex, q⟩
  subst ex
  cases r1
  have fresh : ∀ b, b ∈ [s1.heap.objs.size] → FpOk X pins H1 b := fun b hb => by
    rw [List.mem_singleton.mp hb]
    exact I1.fpOk (Nat.le_refl _) (I1.hok.fresh (Nat.le_refl _))
  rcases q with ⟨xs, sq, qq⟩ | ⟨xs, sq, qq⟩
  · obtain ⟨its, _, pl, _⟩ := I1.list sq
    refine wpAny_pyIter_list pl.isList ?_
    exact ⟨_, [s1.heap.objs.size], _, _, H1, rfl, I1.kept (t' := s1.toks) (fun b o z => Heap.get?_push_of_some _ z), turn_list a s1.heap.objs.size, ⟨_, Heap.get?_push_size _ rfl, rfl, rfl⟩, fresh, qq⟩
  · obtain ⟨its, _, pl, _⟩ := I1.tuple sq
    refine wpAny_pyIter_tuple (show s1.heap.IsTuple a its.toArray from pl) ?_
    exact ⟨_, [s1.heap.objs.size], _, _, H1, rfl, I1.kept (t' := s1.toks) (fun b o z => Heap.get?_push_of_some _ z), turn_tuple a s1.heap.objs.size, ⟨_, Heap.get?_push_size _ rfl, rfl, rfl⟩, fresh, qq⟩
/-- for x in (a list, a tuple); one's own list is let go -/
def wSeq (te : DTE) : DTI := fun σ h Q => te σ h fun x h1 => match fz1 x h1 with
  | some (.list ds, h2) => Q ds h2
  | some (.tuple ds, h2) => Q ds h2
  | _ => False
theorem dw_seq (he : DE X Γ e te) : DWk X Γ tg e (wSeq te) :=
  ⟨fun σ h Q Q' k w => he.mono _ _ _ _ (fun x h1 w1 => by
    split at w1
    · exact k _ _ w1
    · exact k _ _ w1
    · exact w1) w, pi_imp (pi_sq he.pe) fun σ H R ⟨σd, h, rs, rm, w⟩ => lift_mk he.mono rs rm w fun x h1 v H1 px rs1 rv rm1 w1 => by
      split at w1
      · rename_i ds h2 e1
        obtain ⟨p1, r1, d1⟩ := fz1_ok rv rm1 e1
        cases d1 with
        | @lst a vs _ s1 dd => exact ⟨a, rfl, .inl ⟨vs, sqL_up fz_sub s1, w1 _ _ (px.trans p1) r1 (gives_list s1 dd)⟩⟩
      · rename_i ds h2 e1
        obtain ⟨p1, r1, d1⟩ := fz1_ok rv rm1 e1
        cases d1 with
        | @tup a vs _ s1 dd => exact ⟨a, rfl, .inr ⟨vs, sqT_up fz_sub s1, w1 _ _ (px.trans p1) r1 (gives_tup s1 dd)⟩⟩
      · exact w1.elim⟩
def wRg1 (te : DTE) : DTI := fun σ h Q => te σ h fun x h1 => match asInt x with
  | some n => (-(2 ^ 62) ≤ n ∧ n < 2 ^ 62) ∧ Q (rgD 0 n) h1
  | none => False
def wRg2 (ta tb : DTE) : DTI := fun σ h Q => ta σ h fun x h1 => tb σ h1 fun y h2 => match asInt x, asInt y with
  | some n, some m => (-(2 ^ 62) ≤ n ∧ n < 2 ^ 62 ∧ -(2 ^ 62) ≤ m ∧ m < 2 ^ 62) ∧ Q (rgD n m) h2
  | _, _ => False
theorem dw_rg1 {p : Pos} (hg : Gl X "range") (hm : X.mg "range" = none) (ha : DE X Γ a ta) (hs : starEach [a] X.env = [(false, eval a X.env)] := by rfl) : DWk X Γ tg (.Call (.Name "range" p) [a] [] pos) (wRg1 ta) :=
  ⟨fun σ h Q Q' k w => ha.mono _ _ _ _ (fun x h1 w1 => by
    split at w1
    · exact ⟨w1.1, k _ _ w1.2⟩
    · exact w1) w, pi_imp (pi_range1 hg hm (da_cons ha da_nil hs).pa hs) fun σ H R ⟨σd, h, rs, rm, w⟩ => lift_mk (mono_cons ha.mono fun _ _ _ _ k w => k _ _ w) rs rm (C := fun xs h1 => ∃ x, xs = [x] ∧ match asInt x with
      | some n => (-(2 ^ 62) ≤ n ∧ n < 2 ^ 62) ∧ (∀ J H', PX Γ H h H' h1 → RM X.K Γ H' h1 → Gives X.K (Fz Γ H' h1) J (rgD 0 n) → R J H')
      | none => False) (ha.mono _ _ _ _ (fun x h1 w1 => ⟨x, rfl, w1⟩) w) fun xs h1 vs H1 px rs1 rvs rm1 w1 => by
      obtain ⟨x, rfl, w1⟩ := w1
      obtain ⟨v, rfl, rv⟩ := rvs1 rvs
      split at w1
      · rename_i n e1
        have q := w1.2 _ H1 px rm1 (gives_range (a := 0) (b := n))
        rw [Int.sub_zero] at q
        exact ⟨n, by rw [asInt_ok rv e1], w1.1.1, w1.1.2, q⟩
      · exact w1.elim⟩
theorem dw_rg2 {p : Pos} (hg : Gl X "range") (hm : X.mg "range" = none) (ha : DE X Γ a ta) (hb : DE X Γ b tb) (hs : starEach [a, b] X.env = [(false, eval a X.env), (false, eval b X.env)] := by rfl) (hs2 : starEach [b] X.env = [(false, eval b X.env)] := by rfl) : DWk X Γ tg (.Call (.Name "range" p) [a, b] [] pos) (wRg2 ta tb) :=
  ⟨fun σ h Q Q' k w => ha.mono _ _ _ _ (fun x h1 w1 => hb.mono _ _ _ _ (fun y h2 w2 => by
    split at w2
    · exact ⟨w2.1, k _ _ w2.2⟩
    · exact w2) w1) w, pi_imp (pi_range2 hg hm (da_cons ha (da_cons hb da_nil hs2) (by rw [hs, hs2])).pa hs hs2) fun σ H R ⟨σd, h, rs, rm, w⟩ => lift_mk (mono_cons ha.mono (mono_cons hb.mono fun _ _ _ _ k w => k _ _ w)) rs rm (C := fun xs h2 => ∃ x y, xs = [x, y] ∧ match asInt x, asInt y with
      | some n, some m => (-(2 ^ 62) ≤ n ∧ n < 2 ^ 62 ∧ -(2 ^ 62) ≤ m ∧ m < 2 ^ 62) ∧ (∀ J H', PX Γ H h H' h2 → RM X.K Γ H' h2 → Gives X.K (Fz Γ H' h2) J (rgD n m) → R J H')
      | _, _ => False) (ha.mono _ _ _ _ (fun x h1 w1 => hb.mono _ _ _ _ (fun y h2 w2 => ⟨x, y, rfl, w2⟩) w1) w) fun xs h1 vs H1 px rs1 rvs rm1 w1 => by
      obtain ⟨x, y, rfl, w1⟩ := w1
      obtain ⟨v, u, rfl, rv, ru⟩ := rvs2 rvs
      split at w1
      · rename_i n m e1 e2
        exact ⟨n, m, by rw [asInt_ok rv e1, asInt_ok ru e2], w1.1, w1.2 _ H1 px rm1 gives_range⟩
      · exact w1.elim⟩

/-! ## for -/
def forL (g : Tg) (tb : DTS) (D : DEnds) : List PyData → DSt → MH → Prop
  | [], σ, h => D.nx σ h
  | d :: r, σ, h => match bindT g (.d d) σ with
    | some σ1 => tb { nx := fun σ' h' => forL g tb D r σ' h', ct := fun σ' h' => forL g tb D r σ' h', bk := D.nx, rt := D.rt } σ1 h
    | none => False
def dFor (w : DTI) (g : Tg) (tb : DTS) : DTS := fun D σ h => w σ h fun ds h1 => forL g tb D ds σ h1
theorem forL_le {g : Tg} {tb : DTS} (mb : MonoS tb) {D D' : DEnds} (l : DEnds.Le D D') : ∀ ds σ h, forL g tb D ds σ h → forL g tb D' ds σ h
  | [], _, _, w => l.nx _ _ w
  | d :: r, σ, h, w => by
    unfold forL at w ⊢
    split at w
    · refine mb _ _ _ _ ?_ w
      exact ⟨forL_le mb l r, l.rt, l.nx, forL_le mb l r⟩
    · exact w
theorem yd_in {K : PySem.W.Frag} {F H H' : Hp} {h : MH} {d : PyData} {x : V} (s : Sub F (Fz Γ H h)) (rm : RM K Γ H h) (y : YD K F d H x H') : PX Γ H h H' h ∧ RM K Γ H' h ∧ RV K Γ H' h (.d d) x := by
  rcases y with ⟨rfl, q⟩ | ⟨T, a, b, da, db, rfl, n, rfl, rfl, qa, qb⟩
  · exact ⟨PX.refl, rm, dp_up s _ _ q⟩
  · obtain ⟨p1, r1, v1⟩ := new_tup n rm (.cons (dp_up s _ _ qa) (.cons (dp_up s _ _ qb) .nil))
    exact ⟨p1, r1, v1⟩
theorem ds_for {iter : Expr} {body : List Stmt} {w : DTI} {g : Tg} {tb : DTS} (hp : PassesOwn (model X.prog X.w) X.A X.env X.xe) (hc : X.calm = true) (hi : DWk X Γ tg iter w) (hg : DG X tg g) (hb : DSs X Γ body tb)
    (hs : ∀ x, foldedSetIterable iter X.env x = pure x := by intro _; rfl) : DS X Γ (.For tg iter body [] pos) (dFor w g tb) :=
  ⟨fun D D' σ h l w => hi.mono _ _ _ _ (fun ds h1 w1 => forL_le hb.mono l ds σ h1 w1) w, ps_imp (ps_for hp hc hi.pi hg.pg hb.ps hs) fun D σ H ⟨σd, h, rs, rm, w⟩ =>
    ⟨σd, h, rs, rm, hi.mono _ _ _ _ (fun ds h1 w1 J H1 px rm1 gv => by
      refine for_it gv (fun i σ' H' => ∃ σd' h', PX Γ H1 h1 H' h' ∧ RSt X.K Γ H' h' σd' σ' ∧ RM X.K Γ H' h' ∧ forL g tb (liftE X.K Γ H h D) (ds.drop i) σd' h') ⟨σd, h1, PX.refl, rs.up px, rm1, by rw [List.drop_zero]; exact w1⟩ ?_ ?_ ?_
      · rintro i σ' H' _ ⟨σd', h', px', _, _, _⟩ a o e
        exact fz_sub a o (px'.ex a o e)
      · rintro i x σ' H' H2 hi' ⟨σd', h', px', rs', rm', w'⟩ ⟨_, d, e1, y⟩
        obtain ⟨p2, rm2, rv2⟩ := yd_in px'.ex rm' y
        have hdrop : ds.drop i = d :: ds.drop (i + 1) := by
          obtain ⟨hl, hz⟩ := List.getElem?_eq_some_iff.mp e1
          rw [List.drop_eq_getElem_cons hl, hz]
        rw [hdrop] at w'
        unfold forL at w'
        split at w'
        · rename_i σ1 e2
          refine rawT_okS rv2 (rs'.up p2) rm2 e2 fun σr H3 p2b rm3 rsr _ => ⟨σ1, h', rsr, rm3, ?_⟩
          refine hb.mono _ _ _ _ ?_ w'
          have p3 := (px'.trans p2).trans p2b
          have p4 := px.trans p3
          exact ⟨fun σd2 h2 w2 σ2 Hx q r2 m2 => ⟨σd2, h2, p3.trans q, r2, m2, w2⟩, fun x2 h2 w2 v2 Hx q r2 m2 => w2 v2 Hx (p4.trans q) r2 m2, fun σd2 h2 w2 σ2 Hx q r2 m2 => w2 σ2 Hx (p4.trans q) r2 m2, fun σd2 h2 w2 σ2 Hx q r2 m2 => ⟨σd2, h2, p3.trans q, r2, m2, w2⟩⟩
        · exact w'.elim
      · rintro σ' H' ⟨σd', h', px', rs', rm', w'⟩
        rw [List.drop_length] at w'
        exact w' σ' H' (px.trans px') rs' rm') w⟩⟩

/-! ## list comprehensions -/
def wipeD (σ : DSt) : List Nat → DSt
  | [] => σ
  | i :: r => (wipeD σ r).set i none
theorem RSt.wipe {K : PySem.W.Frag} {H : Hp} {h : MH} {σd : DSt} {σ : L2.St} (rs : RSt K Γ H h σd σ) : ∀ vs, RSt K Γ H h (wipeD σd vs) (L2.wipe σ vs)
  | [] => rs
  | i :: r => (RSt.wipe rs r).clr none
def lcL (g : Tg) (tt : DTT) (te : DTE) (σ : DSt) : List PyData → List PyData → MH → (List PyData → MH → Prop) → Prop
  | [], acc, h, Q => Q acc h
  | d :: r, acc, h, Q => match bindT g (.d d) σ with
    | some σ1 => tt σ1 h fun b h1 => if b = true then te σ1 h1 fun y h2 => match fz1 y h2 with
        | some (z, h3) => lcL g tt te σ r (acc ++ [z]) h3 Q
        | none => False
      else lcL g tt te σ r acc h1 Q
    | none => False
def fLc (w : DTI) (g : Tg) (tt : DTT) (te : DTE) (vs : List Nat) : DTF := fun σ h Q => w σ h fun ds h1 => ds.length ≤ sizeLine ∧ lcL g tt te (wipeD σ vs) ds [] h1 Q
theorem lcL_mono {g : Tg} {tt : DTT} {te : DTE} {σ : DSt} (mt : Mono tt) (me : Mono te) {Q Q' : List PyData → MH → Prop} (k : ∀ x h, Q x h → Q' x h) : ∀ ds acc h, lcL g tt te σ ds acc h Q → lcL g tt te σ ds acc h Q'
  | [], _, _, w => k _ _ w
  | d :: r, acc, h, w => by
    unfold lcL at w ⊢
    split at w
    · refine mt _ _ _ _ (fun b h1 w1 => ?_) w
      cases b with
      | true =>
        refine me _ _ _ _ (fun y h2 w2 => ?_) w1
        split at w2
        · exact lcL_mono mt me k _ _ _ w2
        · exact w2
      | false => exact lcL_mono mt me k _ _ _ w1
    · exact w
structure DTs (X : Cx) (Γ : GI) (ifs : List Expr) (t : DTT) : Prop where
  mono : Mono t
  pts : PTs X ifs (liftB X.K Γ t)
theorem pts_imp {ifs : List Expr} {t t' : TT} (p : PTs X ifs t) (k : ∀ σ H Q, t' σ H Q → t σ H Q) : PTs X ifs t' := by
  cases p with
  | mk r => exact ⟨fun pins s σ H Q I w => r pins s σ H Q I (k σ H Q w)⟩
def dYes : DTT := fun _ h Q => Q true h
theorem dts_nil : DTs X Γ [] dYes := ⟨fun _ _ _ _ k w => k _ _ w, pts_imp pts_nil fun σ H Q ⟨σd, h, rs, rm, w⟩ => w _ H PX.refl rfl rm⟩
theorem dts_one {t : DTT} (h : DT X Γ c t) : DTs X Γ [c] t := ⟨h.mono, pts_one h.pt⟩
/-- what is being made is not to be read -/
def GI.more (Γ : GI) (D : Addr) : GI where
  x := D :: Γ.x
  T := Γ.T
  G := fun _ _ => True
  st := fun _ _ => trivial
theorem more_sub {Γ : GI} {H : Hp} {h : MH} {D : Addr} : Sub (Fz (Γ.more D) H h) (Fz Γ H h) := fun a o e => by
  obtain ⟨e1, e2, e3, e4⟩ := Fz.to e
  exact Fz.of e1 e2 (fun z => e3 (List.mem_cons_of_mem _ z)) e4
theorem fz_upd {Γ : GI} {H : Hp} {h : MH} {D : Addr} {o : HO} : Fz (Γ.more D) (upd H D o) h = Fz (Γ.more D) H h := by
  funext a
  show Fzx (D :: Γ.x) _ h a = Fzx (D :: Γ.x) _ h a
  unfold Fzx
  by_cases q : a ∈ D :: Γ.x
  · rw [if_pos q, if_pos q]
  · rw [if_neg q, if_neg q, upd_ne fun z => q (by rw [z]; exact List.mem_cons_self)]
def undo (H : Hp) (D : Addr) : Hp := fun a => if a = D then none else H a
theorem undo_ne {H : Hp} {D a : Addr} (n : a ≠ D) : undo H D a = H a := if_neg n
theorem fz_undo {Γ : GI} {H : Hp} {h : MH} {D : Addr} : Fz Γ (undo H D) h = Fz (Γ.more D) H h := by
  funext a
  show Fzx Γ.x _ h a = Fzx (D :: Γ.x) _ h a
  unfold Fzx
  by_cases e : a = D
  · subst e
    rw [if_pos (show a ∈ a :: Γ.x from List.mem_cons_self), show undo H a a = none from if_pos rfl]
    by_cases m : a ∈ Γ.x
    · rw [if_pos m]
    · rw [if_neg m]
      split <;> rfl
  · rw [undo_ne e]
    by_cases q : a ∈ Γ.x
    · rw [if_pos q, if_pos (List.mem_cons_of_mem _ q)]
    · rw [if_neg q, if_neg fun z => (List.mem_cons.mp z).elim e q]
theorem upd_undo {H : Hp} {D : Addr} {o : HO} (e : H D = some o) : upd (undo H D) D o = H := by
  funext a
  by_cases q : a = D
  · subst q; rw [upd_same, e]
  · rw [upd_ne q, undo_ne q]
theorem RSt.eqF {K : PySem.W.Frag} {Γ' : GI} {H H' : Hp} {h h' : MH} {σd : DSt} {σ : L2.St} (e : Sub (Fz Γ H h) (Fz Γ' H' h')) (r : RSt K Γ H h σd σ) : RSt K Γ' H' h' σd σ := ⟨r.1, fun i x q => by
  obtain ⟨v, e1, e2⟩ := r.2 i x q
  refine ⟨v, e1, ?_⟩
  cases x with
  | d x => exact dp_up e _ _ e2
  | own a => exact e2⟩
/-- what holds between two turns of a comprehension -/
structure LcInv (K : PySem.W.Frag) (Γ : GI) (H1 : Hp) (h1 : MH) (D : Addr) (σd : DSt) (σ : L2.St) (i : Nat) (H : Hp) (h : MH) (acc : List PyData) : Prop where
  at_ : ∃ va, H D = some (.lst va) ∧ DpAll K (Fz (Γ.more D) H h) va acc
  ex : Sub (Fz Γ H1 h1) (Fz (Γ.more D) H h)
  kx : ∀ a, a ∈ Γ.x → H a = H1 a
  rm : RM K (Γ.more D) H h
  rs : RSt K (Γ.more D) H h σd σ
  len : acc.length ≤ i
theorem lc_data {K : PySem.W.Frag} {g : Tg} {tt : DTT} {te : DTE} {vs : List Nat} (mt : Mono tt) (me : Mono te) (hix : (g.ix.all (fun i => vs.contains i) && !g.isStar) = true) {σ : L2.St} {H H1 : Hp} {σd : DSt} {h h1 : MH} {Q : VK} {ds : List PyData} {J : It} {D : Addr}
    (rs : RSt K Γ H h σd σ) (px : PX Γ H h H1 h1) (rm1 : RM K Γ H1 h1) (gv : Gives K (Fz Γ H1 h1) J ds) (hD : H1 D = none) (hlen : ds.length ≤ sizeLine)
    (w1 : lcL g tt te (wipeD σd vs) ds [] h1 fun ds h' => ∀ ws H' p, PX Γ H h H' h' → DpAll K (Fz Γ H' h') ws ds → RM K Γ H' h' → H' p = none → Q (.ref p) (upd H' p (.lst ws))) :
    ∃ W : Nat → Nat → Hp → Prop, (∃ m, W 0 m (upd H1 D (.lst []))) ∧ ∀ i m H, W i m H →
      (J.stop i H ∧ Q (.ref D) H) ∨ (J.go i H ∧ ∃ Nx : Hp → Prop, (∀ H', Nx H' → ∃ m', m' < m ∧ W (i + 1) m' H') ∧ ∀ x H', J.yld i H x H' → rawT K g x (L2.wipe σ vs) H' fun σ2 H2 => L2.wipe σ2 vs = L2.wipe σ vs ∧ (∃ Γ' : GI, Γ'.T = Γ.T ∧ liftB K Γ' tt σ2 H2 fun b H3 =>
        if b = true then (∃ Γ' : GI, Γ'.T = Γ.T ∧ liftV K Γ' te σ2 H3 fun y H4 => ∃ acc, H4 D = some (.lst acc) ∧ acc.length < sizeLine ∧ Nx (upd H4 D (.lst (acc ++ [y])))) else Nx H3)) := by
  have hsub : ∀ i, i ∈ g.ix → i ∈ vs := fun i hm => by simpa using List.all_eq_true.mp (Bool.and_eq_true_iff.mp hix).1 i hm
  have hns : g.isStar = false := by simpa using (Bool.and_eq_true_iff.mp hix).2
  have dx : D ∉ Γ.x := rm1.notx hD
  refine lc_it gv (g := rawT K g) (tt := fun σ H Q => ∃ Γ' : GI, Γ'.T = Γ.T ∧ liftB K Γ' tt σ H Q) (te := fun σ H Q => ∃ Γ' : GI, Γ'.T = Γ.T ∧ liftV K Γ' te σ H Q) (vs := vs) (σ := σ) (H1 := H1) (D := D) (Qd := fun H => Q (.ref D) H) (fun i H' => ∃ h' acc, LcInv K Γ H1 h1 D (wipeD σd vs) (L2.wipe σ vs) i H' h' acc ∧ lcL g tt te (wipeD σd vs) (ds.drop i) acc h' (fun ds h' => ∀ ws H' p, PX Γ H h H' h' → DpAll K (Fz Γ H' h') ws ds → RM K Γ H' h' → H' p = none → Q (.ref p) (upd H' p (.lst ws)))) ?_ ?_ ?_ ?_
  · have e0 : Sub (Fz Γ H1 h1) (Fz (Γ.more D) (upd H1 D (.lst [])) h1) := fun a o z => by
      obtain ⟨z1, z2, z3, z4⟩ := Fz.to z
      have ne := ne_of_none z1 hD
      exact Fz.of (by rw [upd_ne ne]; exact z1) z2 (fun m => (List.mem_cons.mp m).elim ne z3) z4
    refine ⟨h1, [], ⟨⟨[], upd_same, .nil⟩, e0, fun a m => upd_ne fun z => dx (by rw [← z]; exact m), ⟨fun a m e => ?_, trivial, fun a m => ?_, tabs_upd rm1.tb (.inl hD)⟩, RSt.eqF e0 ((rs.up px).wipe vs), Nat.le_refl _⟩, by rw [List.drop_zero]; exact w1⟩
    · exact ro_up (fun u f1 => by rw [upd_ne (ne_of_none f1 hD)]; exact f1) e0 (rm1.ob a m e)
    · rcases List.mem_cons.mp m with z | z
      · subst z; exact ⟨rm1.tracked hD, [], upd_same⟩
      · rw [upd_ne fun q => dx (by rw [← q]; exact z)]
        exact rm1.nx a z
  · rintro i H' _ ⟨h', acc, inv, _⟩ a o e
    exact fz_sub a o (inv.ex a o e)
  · rintro i x H' H2 hi' ⟨h', acc, inv, w2⟩ ⟨_, d, e1, y⟩
    obtain ⟨p2, rm2, rv2⟩ := yd_in inv.ex inv.rm y
    have hdrop : ds.drop i = d :: ds.drop (i + 1) := by
      obtain ⟨hl, hz⟩ := List.getElem?_eq_some_iff.mp e1
      rw [List.drop_eq_getElem_cons hl, hz]
    rw [hdrop] at w2
    unfold lcL at w2
    -- the turn's end: no item more
    have fin : ∀ (h3 : MH) (H3 : Hp), PX (Γ.more D) H' h' H3 h3 → RM K (Γ.more D) H3 h3 → LcInv K Γ H1 h1 D (wipeD σd vs) (L2.wipe σ vs) (i + 1) H3 h3 acc := fun h3 H3 p3 rm3 => by
      obtain ⟨va, a1, a2⟩ := inv.at_
      exact ⟨⟨va, by rw [p3.kx D List.mem_cons_self]; exact a1, dps_up p3.ex _ _ a2⟩, fun a o z => p3.ex a o (inv.ex a o z), fun a m => (p3.kx a (List.mem_cons_of_mem _ m)).trans (inv.kx a m), rm3, inv.rs.up p3, Nat.le_succ_of_le inv.len⟩
    split at w2
    · rename_i σ1 e2
      refine rawT_ok hns rv2 (inv.rs.up p2) e2 fun σr rsr hwp => ⟨by rw [hwp vs hsub, wipe_wipe], Γ.more D, rfl, ?_⟩
      refine lift_mk mt rsr rm2 w2 fun b h3 k H3 px3 rs3 rb rm3 w3 => ?_
      subst rb
      have p3 := p2.trans px3
      cases b with
      | false => exact iteF ⟨h3, acc, fin h3 H3 p3 rm3, w3⟩
      | true =>
        refine iteT ⟨Γ.more D, rfl, ?_⟩
        refine lift_mk me rs3 rm3 w3 fun y h4 yv H4 px4 rs4 ry rm4 w4 => ?_
        split at w4
        · rename_i z h5 e5
          obtain ⟨p5, rm5, rz⟩ := fz1_ok ry rm4 e5
          have inv5 := fin h5 H4 ((p3.trans px4).trans p5) rm5
          obtain ⟨va, a1, a2⟩ := inv5.at_
          have eF : Fz (Γ.more D) (upd H4 D (.lst (va ++ [yv]))) h5 = Fz (Γ.more D) H4 h5 := fz_upd
          have hl : acc.length < sizeLine := by
            have := inv.len
            omega
          refine ⟨va, a1, by rw [dps_len a2]; exact hl, h5, acc ++ [z], ⟨⟨va ++ [yv], upd_same, ?_⟩, ?_, fun a m => ?_, ⟨fun a m e => ?_, trivial, fun a m => ?_, tabs_upd rm5.tb (.inr ⟨_, a1, .inl rfl⟩)⟩, ?_, ?_⟩, w4⟩
          · rw [eF]; exact dps_app a2 (.cons rz .nil)
          · rw [eF]; exact inv5.ex
          · rw [upd_ne fun q => dx (by rw [← q]; exact m)]; exact inv5.kx a m
          · have z := rm5.ob a m e
            have ne : a ≠ D := fun q => by
              have n := (rm5.nx D List.mem_cons_self).1
              rw [← q, e] at n; cases n
            exact ro_up (fun u f1 => by rw [upd_ne ne]; exact f1) (by rw [eF]; exact fun _ _ q => q) z
          · by_cases q : a = D
            · subst q; exact ⟨(rm5.nx a m).1, _, upd_same⟩
            · rw [upd_ne q]
              exact rm5.nx a m
          · exact RSt.eqF (by rw [eF]; exact fun _ _ z => z) inv5.rs
          · rw [List.length_append, List.length_singleton]
            have := inv.len
            omega
        · exact w4.elim
    · exact w2.elim
  · rintro H' ⟨h', acc, inv, w2⟩
    rw [List.drop_length] at w2
    obtain ⟨va, a1, a2⟩ := inv.at_
    have eF : Fz Γ (undo H' D) h' = Fz (Γ.more D) H' h' := fz_undo
    have hpx : PX Γ H1 h1 (undo H' D) h' := ⟨by show Sub _ (Fz Γ (undo H' D) h'); rw [eF]; exact inv.ex, fun a m => by rw [undo_ne fun q => dx (by rw [← q]; exact m)]; exact inv.kx a m⟩
    have r := w2 va (undo H' D) D (px.trans hpx) (by rw [eF]; exact a2) ⟨fun a m e => ?_, Γ.st hpx rm1.g, fun a m => ?_, tabs_but inv.rm.tb fun b o e n => by rw [undo_ne fun z => by rw [z, a1] at e; cases e; exact n (.inl rfl)]; exact e⟩ (if_pos rfl)
    · rw [upd_undo a1] at r
      exact r
    · have z := inv.rm.ob a m e
      have ne : a ≠ D := fun q => by
        have n := (inv.rm.nx D List.mem_cons_self).1
        rw [← q, e] at n; cases n
      exact ro_up (fun u f1 => by rw [undo_ne ne]; exact f1) (by rw [eF]; exact fun _ _ q => q) z
    · rw [undo_ne fun q => dx (by rw [← q]; exact m)]
      exact inv.rm.nx a (List.mem_cons_of_mem _ m)
theorem lc_ok {K : PySem.W.Frag} {w : DTI} {g : Tg} {tt : DTT} {te : DTE} {vs : List Nat} (hw : Mono w) (mt : Mono tt) (me : Mono te) (hix : (g.ix.all (fun i => vs.contains i) && !g.isStar) = true) : ∀ σ H Q, liftF K Γ (fLc w g tt te vs) σ H Q →
    tLc (liftI K Γ w) (rawT K g) (fun σ H Q => ∃ Γ' : GI, Γ'.T = Γ.T ∧ liftB K Γ' tt σ H Q) (fun σ H Q => ∃ Γ' : GI, Γ'.T = Γ.T ∧ liftV K Γ' te σ H Q) vs σ H Q := by
  rintro σ H Q ⟨σd, h, rs, rm, w0⟩
  exact ⟨σd, h, rs, rm, hw _ _ _ _ (fun ds h1 w1 J H1 px rm1 gv D hD => lc_data mt me hix rs px rm1 gv hD w1.1 w1.2) w0⟩
theorem df_lc {elt iter : Expr} {ifs : List Expr} {scope : Scope} {own : List (Str × Nat)} {w : DTI} {g : Tg} {tt : DTT} {te : DTE} (hc : X.calm = true) (hN : X.N.Nodup) (hi : DWk X Γ tg iter w) (ok : BlkOk X.N X.env.scope scope own)
    (hg : ∀ (s : Shared) (H : Hp) (C : Addr) (cl : List (Str × Addr)) (fp : List Addr), DG (X.blk s H scope (compEnvC scope cl C X.env) fp) tg g) (hix : (g.ix.all (fun i => (own.map (·.2)).contains i) && !g.isStar) = true)
    (ht : ∀ (Γ' : GI), Γ'.T = Γ.T → ∀ (s : Shared) (H : Hp) (C : Addr) (cl : List (Str × Addr)) (fp : List Addr), DTs (X.blk s H scope (compEnvC scope cl C X.env) fp) Γ' ifs tt)
    (he : ∀ (Γ' : GI), Γ'.T = Γ.T → ∀ (s : Shared) (H : Hp) (C : Addr) (cl : List (Str × Addr)) (fp : List Addr), DE (X.blk s H scope (compEnvC scope cl C X.env) fp) Γ' elt te) (hs : ∀ x, foldedSetIterable iter X.env x = pure x := by intro _; rfl) :
    DF X Γ (.ListComp elt [⟨tg, iter, ifs, 0⟩] scope pos) (fLc w g tt te (own.map (·.2))) := by
  have mt : Mono tt := (ht Γ rfl ({} : Shared) (fun _ => none) 0 [] []).mono
  have me : Mono te := (he Γ rfl ({} : Shared) (fun _ => none) 0 [] []).mono
  refine ⟨fun σ h Q Q' k w => hi.mono _ _ _ _ (fun ds h1 w1 => ⟨w1.1, lcL_mono mt me k _ _ _ w1.2⟩) w, ?_⟩
  exact pe_imp (pe_lc (pos := pos) (wi := liftI X.K Γ w) (g := rawT X.K g) hc hN hi.pi ok (fun s H C cl fp => (hg s H C cl fp).pg)
    (fun s H C cl fp => ⟨fun pins s' σ H' Q I ⟨Γ', e, q⟩ => (ht Γ' e s H C cl fp).pts.run pins s' σ H' Q I q⟩) (fun s H C cl fp => ⟨fun pins s' σ H' Q I ⟨Γ', e, q⟩ => (he Γ' e s H C cl fp).pe.run pins s' σ H' Q I q⟩) hs) (lc_ok hi.mono mt me hix)
/-- name = [..] on one line, the name a local: td, what is made of the items -/
theorem liftL_dL {K : PySem.W.Frag} {t : DTF} (m : Mono t) : ∀ σ H Q, liftV K Γ (dL t) σ H Q → liftF K Γ t σ H Q := fun σ H Q ⟨σd, h, rs, rm, w⟩ => ⟨σd, h, rs, rm, m _ _ _ _ (fun ds h' q ws H' p px hd rm' n => by
    obtain ⟨p1, r1, v1⟩ := new_list n rm' hd
    exact q _ _ (px.trans p1) v1 r1) w⟩
theorem liftL_own {K : PySem.W.Frag} {t : DTF} (m : Mono t) : ∀ σ H Q, liftV K Γ (dOwn t) σ H Q → liftF K Γ t σ H Q := fun σ H Q ⟨σd, h, rs, rm, w⟩ => ⟨σd, h, rs, rm, m _ _ _ _ (fun ds h' q ws H' p px hd rm' n =>
    q p (rm'.tracked n) _ _ (px.trans (own_px n (rm'.tracked n) (rm'.notx n))) rfl (own_rm n rm' hd)) w⟩
theorem mono_own {t : DTF} (m : Mono t) : Mono (dOwn t) := fun σ h Q Q' k w => m _ _ _ _ (fun ds h1 w1 p hp => k _ _ (w1 p hp)) w
theorem ds_lc_ {i : Nat} {y : Str} {py : Pos} {elt iter : Expr} {ifs : List Expr} {scope : Scope} {own : List (Str × Nat)} {spos : Pos} {w : DTI} {g : Tg} {tt : DTT} {te td : DTE} (md : Mono td) (up : ∀ σ H Q, liftV X.K Γ td σ H Q → liftF X.K Γ (fLc w g tt te (own.map (·.2))) σ H Q) (hc : X.calm = true) (hN : X.N.Nodup) (hi : DWk X Γ tg iter w) (ok : BlkOk X.N X.env.scope scope own)
    (hg : ∀ (s : Shared) (H : Hp) (C : Addr) (cl : List (Str × Addr)) (fp : List Addr), DG (X.blk s H scope (compEnvC scope cl C X.env) fp) tg g) (hix : (g.ix.all (fun i => (own.map (·.2)).contains i) && !g.isStar) = true)
    (ht : ∀ (Γ' : GI), Γ'.T = Γ.T → ∀ (s : Shared) (H : Hp) (C : Addr) (cl : List (Str × Addr)) (fp : List Addr), DTs (X.blk s H scope (compEnvC scope cl C X.env) fp) Γ' ifs tt)
    (he : ∀ (Γ' : GI), Γ'.T = Γ.T → ∀ (s : Shared) (H : Hp) (C : Addr) (cl : List (Str × Addr)) (fp : List Addr), DE (X.blk s H scope (compEnvC scope cl C X.env) fp) Γ' elt te)
    (hy : X.N[i]? = some y) (hyl : X.env.scope.names.lookup y = some .local) (hsw : swapsWith (.ListComp elt [⟨tg, iter, ifs, 0⟩] scope pos) (some (.Name y py)) spos.line X.env = pure true) (hs : ∀ x, foldedSetIterable iter X.env x = pure x) :
    DS X Γ (.Assign [.Name y py] (.ListComp elt [⟨tg, iter, ifs, 0⟩] scope pos) spos) (dAsg td (.nm i)) := by
  have mt : Mono tt := (ht Γ rfl ({} : Shared) (fun _ => none) 0 [] []).mono
  have me : Mono te := (he Γ rfl ({} : Shared) (fun _ => none) 0 [] []).mono
  refine ⟨mono_asg md, ps_imp (ps_setLc (wi := liftI X.K Γ w) (g := rawT X.K g) (tt := fun σ H Q => ∃ Γ' : GI, Γ'.T = Γ.T ∧ liftB X.K Γ' tt σ H Q) (te := fun σ H Q => ∃ Γ' : GI, Γ'.T = Γ.T ∧ liftV X.K Γ' te σ H Q) hc hN hy hyl hsw hi.pi ok (fun s H C cl fp => (hg s H C cl fp).pg)
    (fun s H C cl fp => ⟨fun pins s' σ H' Q I ⟨Γ', e, q⟩ => (ht Γ' e s H C cl fp).pts.run pins s' σ H' Q I q⟩) (fun s H C cl fp => ⟨fun pins s' σ H' Q I ⟨Γ', e, q⟩ => (he Γ' e s H C cl fp).pe.run pins s' σ H' Q I q⟩) hs) fun D σ H q => ?_⟩
  exact lc_ok hi.mono mt me hix _ _ _ (up _ _ _ (asg_lift (g := .nm i) md D σ H q))
theorem ds_lc (i : Nat) {y : Str} {py : Pos} {elt iter : Expr} {ifs : List Expr} {scope : Scope} {own : List (Str × Nat)} {spos : Pos} {w : DTI} {g : Tg} {tt : DTT} {te : DTE} (hc : X.calm = true) (hN : X.N.Nodup) (hi : DWk X Γ tg iter w) (ok : BlkOk X.N X.env.scope scope own)
    (hg : ∀ (s : Shared) (H : Hp) (C : Addr) (cl : List (Str × Addr)) (fp : List Addr), DG (X.blk s H scope (compEnvC scope cl C X.env) fp) tg g) (hix : (g.ix.all (fun i => (own.map (·.2)).contains i) && !g.isStar) = true)
    (ht : ∀ (Γ' : GI), Γ'.T = Γ.T → ∀ (s : Shared) (H : Hp) (C : Addr) (cl : List (Str × Addr)) (fp : List Addr), DTs (X.blk s H scope (compEnvC scope cl C X.env) fp) Γ' ifs tt)
    (he : ∀ (Γ' : GI), Γ'.T = Γ.T → ∀ (s : Shared) (H : Hp) (C : Addr) (cl : List (Str × Addr)) (fp : List Addr), DE (X.blk s H scope (compEnvC scope cl C X.env) fp) Γ' elt te)
    (hy : X.N[i]? = some y := by rfl) (hyl : X.env.scope.names.lookup y = some .local := by rfl) (hsw : swapsWith (.ListComp elt [⟨tg, iter, ifs, 0⟩] scope pos) (some (.Name y py)) spos.line X.env = pure true := by rfl) (hs : ∀ x, foldedSetIterable iter X.env x = pure x := by intro _; rfl) :
    DS X Γ (.Assign [.Name y py] (.ListComp elt [⟨tg, iter, ifs, 0⟩] scope pos) spos) (dAsg (dL (fLc w g tt te (own.map (·.2)))) (.nm i)) := by
  have m := (df_lc (pos := pos) hc hN hi ok hg hix ht he hs).mono
  exact ds_lc_ (mono_L m) (liftL_dL m) hc hN hi ok hg hix ht he hy hyl hsw hs
theorem ds_lcO (i : Nat) {y : Str} {py : Pos} {elt iter : Expr} {ifs : List Expr} {scope : Scope} {own : List (Str × Nat)} {spos : Pos} {w : DTI} {g : Tg} {tt : DTT} {te : DTE} (hc : X.calm = true) (hN : X.N.Nodup) (hi : DWk X Γ tg iter w) (ok : BlkOk X.N X.env.scope scope own)
    (hg : ∀ (s : Shared) (H : Hp) (C : Addr) (cl : List (Str × Addr)) (fp : List Addr), DG (X.blk s H scope (compEnvC scope cl C X.env) fp) tg g) (hix : (g.ix.all (fun i => (own.map (·.2)).contains i) && !g.isStar) = true)
    (ht : ∀ (Γ' : GI), Γ'.T = Γ.T → ∀ (s : Shared) (H : Hp) (C : Addr) (cl : List (Str × Addr)) (fp : List Addr), DTs (X.blk s H scope (compEnvC scope cl C X.env) fp) Γ' ifs tt)
    (he : ∀ (Γ' : GI), Γ'.T = Γ.T → ∀ (s : Shared) (H : Hp) (C : Addr) (cl : List (Str × Addr)) (fp : List Addr), DE (X.blk s H scope (compEnvC scope cl C X.env) fp) Γ' elt te)
    (hy : X.N[i]? = some y := by rfl) (hyl : X.env.scope.names.lookup y = some .local := by rfl) (hsw : swapsWith (.ListComp elt [⟨tg, iter, ifs, 0⟩] scope pos) (some (.Name y py)) spos.line X.env = pure true := by rfl) (hs : ∀ x, foldedSetIterable iter X.env x = pure x := by intro _; rfl) :
    DS X Γ (.Assign [.Name y py] (.ListComp elt [⟨tg, iter, ifs, 0⟩] scope pos) spos) (dAsg (dOwn (fLc w g tt te (own.map (·.2)))) (.nm i)) := by
  have m := (df_lc (pos := pos) hc hN hi ok hg hix ht he hs).mono
  exact ds_lc_ (mono_own m) (liftL_own m) hc hN hi ok hg hix ht he hy hyl hsw hs
end
end DL

namespace DL
open PySem PySem.Spec PyProof.Rows L2
set_option autoImplicit true

/-! ## exceptions, promises -/
structure DExc where
  cls : Str
  fs : List (Str × PyData)
def RX (K : PySem.W.Frag) (Γ : GI) (H : Hp) (h : MH) (x : DExc) (cls : Value) (d : Option Addr) : Prop :=
  cls = .ref (He.ga K x.cls) ∧ ((d = none ∧ x.fs = []) ∨ ∃ dd vs, d = some dd ∧ Fz Γ H h dd = some (.xd vs) ∧ Paired (fun (p : Str × PyData) (q : Str × V) => p.1 = q.1 ∧ Dp K (Fz Γ H h) q.2 p.2) x.fs vs)
abbrev DXK := DExc → MH → Prop
abbrev DXS := DExc → DSt → MH → Prop
abbrev DSp := List SV → MH → DK → DXK → Prop
def liftX (K : PySem.W.Frag) (Γ : GI) (E : DXS) : WX := fun cls d σ H => ∃ x σd h, RSt K Γ H h σd σ ∧ RM K Γ H h ∧ RX K Γ H h x cls d ∧ E x σd h
def noX : DXS := fun _ _ _ => False
theorem takes_no {X : Cx} : Takes X (liftX X.K Γ noX) := takes0.imp fun _ _ _ _ ⟨_, _, _, _, _, _, z⟩ => z
def G0 (xs : List Addr) (T : List (Addr × Str)) : GI := ⟨xs, T, fun _ _ => True, fun _ _ => trivial⟩
theorem RM.g0 {K : PySem.W.Frag} {H : Hp} {h : MH} (r : RM K Γ H h) : RM K (G0 Γ.x Γ.T) H h := ⟨r.ob, trivial, r.nx, r.tb⟩
theorem RM.back {K : PySem.W.Frag} {H H' : Hp} {h h' : MH} (r : RM K Γ H h) (p : PX Γ H h H' h') (q : RM K (G0 Γ.x Γ.T) H' h') : RM K Γ H' h' := ⟨q.ob, Γ.st p r.g, q.nx, q.tb⟩
def liftSp (K : PySem.W.Frag) (T : List (Addr × Str)) (W : DSp) : Sp := fun vs H Q E => ∃ (xs : List Addr) (ds : List SV) (h : MH), RVs K (G0 xs T) H h ds vs ∧ RM K (G0 xs T) H h ∧
  W ds h (fun r h' => ∀ v H', PXx xs H h H' h' → RV K (G0 xs T) H' h' r v → RM K (G0 xs T) H' h' → Q v H') (fun x h' => ∀ cls d H', PXx xs H h H' h' → RX K (G0 xs T) H' h' x cls d → RM K (G0 xs T) H' h' → E cls d H')
def MonoW (W : DSp) : Prop := ∀ ds h (Q Q' : DK) (E E' : DXK), (∀ x h', Q x h' → Q' x h') → (∀ x h', E x h' → E' x h') → W ds h Q E → W ds h Q' E'
theorem rvs_len {K : PySem.W.Frag} {H : Hp} {h : MH} : ∀ {xs : List SV} {vs : List V}, RVs K Γ H h xs vs → vs.length = xs.length
  | _, _, .nil => rfl
  | _, _, .cons _ t => by rw [List.length_cons, List.length_cons, rvs_len t]
/-- a def keeps its promise, where no repr runs around -/
structure FnG (P : Program) (w : World) (K : PySem.W.Frag) (mg : Str → Option Value) (base : Heap) (T : List (Addr × Str)) (k : Nat) (f : Addr) (fd : FuncData) (ps : List Str) (W : DSp) : Prop where
  len : ∀ ds h Q E, W ds h Q E → ds.length = ps.length
  mono : MonoW W
  run : ∀ (A : Around) (outer : List Env) (s : Shared) (H : Hp) (args : Args) (us : List Value) (vs : List V) (Q : VK) (E : XK), Room k A → A.guards = some [] → Env0 P w K mg base A outer s H → BindsTo s fd args (ps.zip us) → Vals vs us →
    liftSp K T W vs H Q E → codeAny (model P w) A (.call (.ref f) args) (CR (L2.CX P w) outer P w H s Q E) s
theorem FnG.up {P : Program} {w : World} {K : PySem.W.Frag} {mg : Str → Option Value} {base : Heap} {j k : Nat} {f : Addr} {fd : FuncData} {ps : List Str} {W : DSp} (F : FnG P w K mg base T j f fd ps W) (h : j ≤ k) : FnG P w K mg base T k f fd ps W :=
  ⟨F.len, F.mono, fun A outer s H args us vs Q E hr => F.run A outer s H args us vs Q E (hr.mono h)⟩
structure FnG.Imp (W W' : DSp) : Prop where
  imp : ∀ ds h Q E, W' ds h Q E → W ds h Q E

/-! ## a def's body -/
def dstart (N : List Str) (ds : List SV) : DSt := ds.map some ++ List.replicate (N.length - ds.length) none
theorem rst_start {K : PySem.W.Frag} {H : Hp} {h : MH} {N : List Str} {ds : List SV} {vs : List V} (r : RVs K Γ H h ds vs) : RSt K Γ H h (dstart N ds) (L2.start N vs) := by
  have el := rvs_len r
  refine ⟨by unfold dstart L2.start; simp [el], fun i x e => ?_⟩
  have get : ∀ {ds : List SV} {vs : List V}, RVs K Γ H h ds vs → ∀ (i : Nat), ds[i]? = some x → ∃ v, vs[i]? = some v ∧ RV K Γ H h x v := by
    intro ds vs r
    induction r with
    | nil => intro i e; simp at e
    | cons r1 _ ih =>
      intro i e
      cases i with
      | zero => simp at e; subst e; exact ⟨_, rfl, r1⟩
      | succ i => exact ih i (by simpa using e)
  unfold dstart at e
  by_cases hi : i < ds.length
  · rw [List.getElem?_append_left (by simpa using hi), List.getElem?_map] at e
    cases q : ds[i]? with
    | none => rw [q] at e; cases e
    | some y =>
      rw [q] at e
      cases e
      obtain ⟨v, e1, e2⟩ := get r i q
      refine ⟨v, ?_, e2⟩
      unfold L2.start
      rw [List.getElem?_append_left (by rw [List.length_map, el]; exact hi), List.getElem?_map, e1]
      rfl
  · rw [List.getElem?_append_right (by simpa using hi), List.getElem?_replicate] at e
    split at e <;> cases e
/-- behind a call: what was there ahead of it, and what it hands back -/
def SV.isOwn (r : SV) (b : Addr) : Bool := match r with
  | .own a => Nat.beq a b
  | .d _ => false
def restr (h0 h : MH) (r : SV) : MH := fun b => if (h0 b).isSome || r.isOwn b then h b else none
def restrX (h0 h : MH) : MH := fun b => if (h0 b).isSome then h b else none
theorem restr_sub {h0 h : MH} {r : SV} : ∀ a o, restr h0 h r a = some o → h a = some o := fun a o e => by
  unfold restr at e
  split at e
  · exact e
  · cases e
theorem restrX_sub {h0 h : MH} : ∀ a o, restrX h0 h a = some o → h a = some o := fun a o e => by
  unfold restrX at e
  split at e
  · exact e
  · cases e
theorem sub_none {h h' : MH} (s : ∀ a o, h' a = some o → h a = some o) : ∀ a, h a = none → h' a = none := fun a n => by
  cases q : h' a with
  | none => rfl
  | some o => rw [s a o q] at n; cases n
theorem rx_up {K : PySem.W.Frag} {H H' : Hp} {h h' : MH} {x : DExc} {cls : Value} {d : Option Addr} (p : PX Γ H h H' h') (r : RX K Γ H h x cls d) : RX K Γ H' h' x cls d := by
  obtain ⟨e, r⟩ := r
  refine ⟨e, r.imp id ?_⟩
  rintro ⟨dd, vs, e1, e2, e3⟩
  exact ⟨dd, vs, e1, p.ex _ _ e2, Paired.mapP e3 fun _ _ z => ⟨z.1, dp_up p.ex _ _ z.2⟩⟩
/-- the wish at a def's end, told of its body -/
def dEnd (_ : MH) (Q : DK) : DEnds where
  nx := fun _ h' => ∃ h2, (∀ a o, h2 a = some o → h' a = some o) ∧ Q (.d .none) h2
  rt := fun r h' => ∃ h2, (∀ a o, h2 a = some o → h' a = some o) ∧ Q r h2
  bk := fun _ _ => False
  ct := fun _ _ => False
def fnW (N ps : List Str) (t : DXS → DTS) : DSp := fun ds h Q E => ds.length = ps.length ∧ ∃ (E0 : DXS) (D0 : DEnds), (∀ x σ h', E0 x σ h' → ∃ h2, (∀ a o, h2 a = some o → h' a = some o) ∧ E x h2) ∧ DEnds.Le D0 (dEnd h Q) ∧ t E0 D0 (dstart N ds) h
theorem fnW_mk {N ps : List Str} {t : DXS → DTS} {ds : List SV} {h : MH} {Q : DK} {E : DXK} (hl : ds.length = ps.length) (ht : t (fun x _ h' => E x (restrX h h')) (dEnd h Q) (dstart N ds) h) : fnW N ps t ds h Q E := ⟨hl, _, _, fun _ _ _ z => ⟨_, restrX_sub, z⟩, le_refl, ht⟩
theorem fnW_mkA {N ps : List Str} {t : DXS → DTS} {ds : List SV} {h : MH} {Q : DK} {E : DXK} (hl : ds.length = ps.length) (ht : t (fun x _ h' => E x h') (dEnd h Q) (dstart N ds) h) : fnW N ps t ds h Q E := ⟨hl, _, _, fun _ _ h' z => ⟨h', fun _ _ q => q, z⟩, le_refl, ht⟩
theorem fnW_mono {N ps : List Str} {t : DXS → DTS} : MonoW (fnW N ps t) := fun ds h Q Q' E E' k kx ⟨hl, E0, D0, hE, hD, ht⟩ =>
  ⟨hl, E0, D0, fun x σ h' z => let ⟨h2, a, b⟩ := hE x σ h' z; ⟨h2, a, kx _ _ b⟩, ⟨fun σ h' z => let ⟨h2, a, b⟩ := hD.nx σ h' z; ⟨h2, a, k _ _ b⟩, fun x h' z => let ⟨h2, a, b⟩ := hD.rt x h' z; ⟨h2, a, k _ _ b⟩, fun σ h' z => hD.bk σ h' z, fun σ h' z => hD.ct σ h' z⟩, ht⟩
section
variable {P : Program} {w : World} {K : PySem.W.Frag} {mg : Str → Option Value} {base : Heap}
/-- THE RULE for a def -/
theorem fn_g {T : List (Addr × Str)} {x qual : Str} {st : Stmt} {f : Addr} {fd : FuncData} {N ps : List Str} {k : Nat} {t : DXS → DTS} (F : Fun K x qual st f fd) (S : FnScope N ps (defScope st))
    (body : ∀ (cdv : Value) (A : Around) (outer : List Env) (s : Shared) (H : Hp) (E' : XK) (Γ : GI) (Ed : DXS), fd.code = cdv → Γ.T = T → Room k (A.deeper (envOfC qual (defScope st) s.heap.objs.size f cdv)) → A.guards = some [] →
      Takes (cxOf (L2.CX P w) P w K mg base N qual (defScope st) f cdv A outer s H E') (liftX K Γ Ed) → DSs (cxOf (L2.CX P w) P w K mg base N qual (defScope st) f cdv A outer s H E') Γ (defBody st) (t Ed)) :
    FnG P w K mg base T (k + 1) f fd ps (fnW N ps t) := by
  obtain ⟨oc, od, kV, doc, pm, an, cdv, ct, osl, rfl, lk, hcd⟩ := F.ex
  refine ⟨fun ds h Q E w' => w'.1, fnW_mono, ?_⟩
  rintro A outer s H args us vs Q E room gd env0 bind rel ⟨xs, ds, h, rv, rm, hlen, E0, D0, hE, hD, hw⟩
  have vlen : vs.length = ps.length := by rw [rvs_len rv]; exact hlen
  have keepB : ∀ b o, base.get? b = some o → s.heap.get? b = some o := fun b o z => (env0.bs b o z).1
  have inK : K.In s.heap := env0.mod.kin.keeps keepB
  have noLim : s.heap.NoLimit := env0.mod.nolimit.keeps keepB
  have kinds : ∀ y ∈ ps.zip us, (defScope st).names.lookup y.1 = some .local ∨ ((defScope st).names.lookup y.1 = some .cell ∧ ((cellsFrom (s.heap.objs.size + 1) (defScope st).names []).lookup y.1).isSome = true) := by
    rintro ⟨n, u⟩ hy
    exact (S.par n (List.of_mem_zip hy).1).imp id fun q => ⟨q, PySem.W.cellsFrom_some _ _ _ (.inl q)⟩
  refine codeAny_call_function room.depth (inK _ _ lk) rfl S.co S.gen rfl (PySem.W.codeRec_of inK hcd) (bind _ _ _ _ ?_)
  refine wpAny_newFunctionEnv_cells S.kind kinds fun env henv s1 made => ?_
  subst henv
  refine ⟨noLim.keeps made.toInCall.keep, codeAny_func ?_⟩
  have I := inv_start (CX := L2.CX P w) (E := E) S room.hd env0 vlen rel made
  -- the deep reading
  let Γ : GI := ⟨xs, T, fun H' h' => PXx xs H h H' h', fun p q => q.trans p⟩
  have rmΓ : RM K Γ H h := ⟨rm.ob, PXx.refl, rm.nx, rm.tb⟩
  have rsΓ : RSt K Γ H h (dstart N ds) (L2.start N vs) := rst_start (Γ := Γ) rv
  have tk : Takes (cxOf (L2.CX P w) P w K mg base N qual (defScope st) f cdv A outer s H E) (liftX K Γ E0) := (takes_of (X := cxOf (L2.CX P w) P w K mg base N qual (defScope st) f cdv A outer s H E) rfl rfl rfl rfl).imp fun cls d σ H' z => by
    obtain ⟨x, σd, h', _, rm', rx, e⟩ := z
    obtain ⟨h2, hs2, e2⟩ := hE _ _ _ e
    have dpx : PXx xs H' h' H' h2 := drop_px (Γ := Γ) (sub_none hs2)
    exact e2 cls d H' (rm'.g.trans dpx) (rx_up (Γ := G0 xs T) dpx rx) (drop_rm (Γ := Γ) hs2 rm').g0
  have der := body cdv A outer s H E Γ E0 rfl rfl (room.deeper _) gd tk
  refine wpAny_mono (der.ps.run [] s1 (L2.start N vs) H { nx := fun _ H' => Q .non H', rt := Q } I ⟨dstart N ds, h, rsΓ, rmΓ, der.mono _ _ _ _ ?_ hw⟩) (fun fl s' hs => ?_) fun e s' hs => hs
  · have out : ∀ (r : SV) (h' : MH) (v : V) (H' : Hp), (∃ h2, (∀ a o, h2 a = some o → h' a = some o) ∧ ∀ v H', PXx xs H h H' h2 → RV K (G0 xs T) H' h2 r v → RM K (G0 xs T) H' h2 → Q v H') → PX Γ H h H' h' → RV K Γ H' h' r v → RM K Γ H' h' → Q v H' := fun r h' v H' ⟨h2, hs2, z⟩ p rr rm' => by
      have dpx : PXx xs H' h' H' h2 := drop_px (Γ := Γ) (sub_none hs2)
      exact z v H' (PXx.trans p dpx) (RV.up (Γ := G0 xs T) dpx rr) (drop_rm (Γ := Γ) hs2 rm').g0
    exact ⟨fun σd h' z σ H' p _ r => out (.d .none) h' .non H' (hD.nx σd h' z) p rv_non r, fun r h' z v H' p rr r' => out r h' v H' (hD.rt r h' z) p rr r', fun _ _ z => (hD.bk _ _ z).elim, fun _ _ z => (hD.ct _ _ z).elim⟩
  · have done : ∀ {σ' : L2.St} {H' : Hp} {v : V} {u : Value}, Inv (cxOf (L2.CX P w) P w K mg base N qual (defScope st) f cdv A outer s H E) [] σ' H' s' → RelV v u → Q v H' → CE outer P w H s Q u s' :=
      fun {σ' H' v u} J r q => ⟨v, H', J.os, J.bare, J.base, J.hok, r, q⟩
    match fl, hs with
    | .ret u, ⟨v, σ', H', J, r, q⟩ => exact done J r q
    | .next, ⟨σ', H', J, q⟩ => exact done (v := V.non) (u := Value.none) J rfl q
    | .brk, ⟨_, _, _, q⟩ => exact q.elim
    | .cont, ⟨_, _, _, q⟩ => exact q.elim
end

/-! ## calls -/
def dCall (E : DXS) (W : DSp) (t : DTA) : DTE := fun σ h Q => t σ h fun xs h1 => W xs h1 Q fun x h2 => E x σ h2
section
variable {X : Cx} {k : Nat} {f : Addr} {fd : FuncData} {ps : List Str} {W : DSp} {E : DXS} {x : Str} {p pos : Pos} {e : Expr} {es : List Expr} {t : DTA}
theorem run_g {pins : List (Addr × Obj)} {σ : L2.St} {H : Hp} {s : Shared} {Q : VK} {us : List Value} {vs : List V} {xs : List SV} {σd : DSt} {h : MH} {C : DK} (F : FnG X.prog X.w X.K X.mg X.base Γ.T k f fd ps W) (hr : Room k X.A) (hg : X.A.guards = some []) (hb : Binds X.K fd ps []) (tk : Takes X (liftX X.K Γ E))
    (I : Inv X pins σ H s) (r : Vals vs us) (rv : RVs X.K Γ H h xs vs) (rs : RSt X.K Γ H h σd σ) (rm : RM X.K Γ H h) (hw : W xs h C fun x h2 => E x σd h2) (k' : ∀ z h' v H', PX Γ H h H' h' → RV X.K Γ H' h' z v → RM X.K Γ H' h' → C z h' → Q v H') :
    wpAny (model X.prog X.w) X.A (call (.ref f) us) (EP X pins σ Q) X.xe s := by
  have el : (us ++ []).length = ps.length := by rw [List.append_nil, ← r.length, rvs_len rv]; exact F.len _ _ _ _ hw
  have bi := hb s us I.kIn el
  rw [List.append_nil] at bi
  have hsp : liftSp X.K Γ.T W vs H Q (fun cls d H' => liftX X.K Γ E cls d σ H') := ⟨Γ.x, xs, h, rv, rm.g0, F.mono _ _ _ _ _ _ (fun z h' c v H' px rz rm' => k' z h' v H' px rz (rm.back px rm') c)
    (fun x h' ee cls d H' px rx rm' => ⟨x, σd, h', rs.up px, rm.back px rm', rx, ee⟩) hw⟩
  refine wpAny_call (codeAny_mono (F.run X.A X.stack s H ⟨us, []⟩ us vs Q (fun cls d H' => liftX X.K Γ E cls d σ H') hr hg I.env0 bi r hsp) fun res s' hq => ?_)
  match res, hq with
  | .error ex, hq => exact tk ex s' (XE.of_call I (fun _ _ _ z => z) hq)
  | .ok (.ret u), hq => exact I.after hq
  | .ok .next, hq => exact False.elim hq
  | .ok .brk, hq => exact False.elim hq
  | .ok .cont, hq => exact False.elim hq
theorem mono_call {t : DTA} (m : Mono t) (mw : MonoW W) : Mono (dCall E W t) := fun σ h Q Q' k w => m _ _ _ _ (fun xs h1 w1 => mw _ _ _ _ _ _ k (fun _ _ z => z) w1) w
theorem de_call {T : List (Addr × Str)} (hΓ : Γ.T = T) (F : FnG X.prog X.w X.K X.mg X.base T k f fd ps W) (hr : Room k X.A) (hgd : X.A.guards = some []) (hg : Gl X x) (hm : X.mg x = some (.ref f)) (hk : PySem.W.keepIn X.K (.ref f) = true) (hb : Binds X.K fd ps []) (tk : Takes X (liftX X.K Γ E))
    (ha : DA X Γ (e :: es) t) (hdb : (x == ("__debug__" : Str)) = false := by decide) (he : starEach (e :: es) X.env = (false, eval e X.env) :: starEach es X.env := by rfl) (hpl : (backTo pos (starEach es X.env)).any (·.1) = false := by rfl) :
    DE X Γ (.Call (.Name x p) (e :: es) [] pos) (dCall E W t) := by
  subst hΓ
  refine ⟨mono_call ha.mono F.mono, ⟨fun pins s σ H Q I w => ?_⟩⟩
  obtain ⟨σd, h, rs, rm, w⟩ := w
  refine wpAny_Call_Name_kw (ld_glob I hg hm ?_ hdb)
  refine PySem.W.callWith_K (h₀ := X.base) I.ok.mod.kin hk (thn (ha.pa.run pos pins s σ H (fun vs H1 => ∃ xs h1, PX Γ H h H1 h1 ∧ RVs X.K Γ H1 h1 xs vs ∧ RSt X.K Γ H1 h1 σd σ ∧ RM X.K Γ H1 h1 ∧ W xs h1 (fun z h' => ∀ v H', PX Γ H h H' h' → RV X.K Γ H' h' z v → RM X.K Γ H' h' → Q v H') fun x h2 => E x σd h2) I
    (lift_mk ha.mono rs rm w fun xs h1 vs H1 px rs1 rvs rm1 w1 => ⟨xs, h1, px, rvs, rs1, rm1, w1⟩)) ?_) he hpl
  rintro us s1 ⟨vs, H1, I1, r, xs, h1, px, rvs, rs1, rm1, w1⟩
  exact ⟨I1.kIn, run_g F hr hgd hb tk I1 r rvs rs1 rm1 w1 fun z h' v H' px' rz rm' c => c v H' (px.trans px') rz rm'⟩
theorem de_call0 {T : List (Addr × Str)} (hΓ : Γ.T = T) (F : FnG X.prog X.w X.K X.mg X.base T k f fd ps W) (hr : Room k X.A) (hgd : X.A.guards = some []) (hg : Gl X x) (hm : X.mg x = some (.ref f)) (hk : PySem.W.keepIn X.K (.ref f) = true) (hb : Binds X.K fd ps []) (tk : Takes X (liftX X.K Γ E))
    (hdb : (x == ("__debug__" : Str)) = false := by decide) : DE X Γ (.Call (.Name x p) [] [] pos) (dCall E W dNil) := by
  subst hΓ
  refine ⟨mono_call (fun _ _ _ _ k w => k _ _ w) F.mono, ⟨fun pins s σ H Q I w => ?_⟩⟩
  obtain ⟨σd, h, rs, rm, w⟩ := w
  refine wpAny_Call_Name_kw (ld_glob I hg hm ?_ hdb)
  exact PySem.W.callWith_K0 I.kIn hk (run_g (us := []) (xs := []) F hr hgd hb tk I .nil .nil rs rm w fun z h' v H' px' rz rm' c => c v H' px' rz rm')
end
end DL

namespace DL
open PySem PySem.Spec PyProof.Rows L2
set_option autoImplicit true

/-! ## repr -/
/-- repr of none, ints, truths, texts, lists, tuples of them, whose text is short enough -/
def reprOk (d : PyData) : Prop := d.showable = true ∧ d.hasDict = false ∧ d.depth ≤ 32 ∧ d.shown.length ≤ sizeLine
def rdRepr : DRA := fun xs h Q => match xs with
  | [.d d] => reprOk d ∧ Q (.d (.str d.shown)) h
  | _ => False
def rReprV (K : PySem.W.Frag) : List V → Hp → VK → Prop := fun vs H Q => ∃ v d, vs = [v] ∧ Dp K H v d ∧ reprOk d ∧ Q (.str d.shown) H
theorem cr_repr {X : Cx} (hg : X.A.guards = some []) (hu : X.A.units + 64 < cLine) : CallR X (.builtin "repr") (rReprV X.K) := by
  intro pins s σ H vs us Q I r h
  obtain ⟨v, d, rfl, dp, ⟨h1, h2, h3, h4⟩, q⟩ := h
  obtain ⟨u, rfl, ru⟩ := vals1 r
  have one : ∀ x : Str, d.shown = x → EP X pins σ Q (.str x s.toks) { s with toks := s.toks + 1 } := fun x e => ⟨.str x, H, I.tok _, ⟨_, rfl⟩, by rw [← e]; exact q⟩
  have many : ∀ a as, u = .ref a → Reads s.heap (.ref a) d as → wpAny (model X.prog X.w) X.A (call (.builtin "repr") [.ref a]) (EP X pins σ Q) X.xe s := fun a as e rd =>
    repr_of_reads' rd h1 (PyData.noDict_hsm h2) hg (by omega) (fun _ _ e => e) (fun h' u' tk hk => ⟨.str d.shown, H, I.kept hk, ⟨_, rfl⟩, q⟩) h4
  obtain ⟨as, rd⟩ := Dp.reads I d v u dp ru
  cases dp with
  | non =>
    obtain rfl : u = Value.none := ru
    exact P.repr_of_none (one _ (by simp only [PyData.shown]))
  | bl b =>
    obtain rfl : u = Value.bool b := ru
    exact P.repr_of_bool (one _ (by simp only [PyData.shown]))
  | int i =>
    obtain ⟨t, rfl⟩ := ru
    exact P.repr_of_int (by simpa [PyData.showable] using h1) (one _ (by simp only [PyData.shown]))
  | str x =>
    obtain ⟨t, rfl⟩ := ru
    simp only [PyData.shown] at h4
    exact P.repr_of_str (one _ (by simp only [PyData.shown])) h4
  | lst _ _ => obtain rfl : u = Value.ref _ := ru; exact many _ _ rfl rd
  | tup _ _ => obtain rfl : u = Value.ref _ := ru; exact many _ _ rfl rd
theorem la_repr {K : PySem.W.Frag} : LRA K Γ rdRepr (rReprV K) := by
  refine ⟨fun xs h Q Q' k w => ?_, fun xs vs H h C Q r rm w k => ?_⟩
  · unfold rdRepr at w ⊢
    split at w
    · exact ⟨w.1, k _ _ w.2⟩
    · exact w
  · unfold rdRepr at w
    split at w
    · obtain ⟨v, rfl, rv⟩ := rvs1 r
      exact ⟨v, _, rfl, dp_up fz_sub _ _ rv, w.1, k _ _ _ H PX.refl rv_str rm w.2⟩
    · exact w.elim

/-! ## sorted -/
def lexL : List Int → List Int → Bool
  | x :: xs, y :: ys => if x = y then lexL xs ys else decide (x < y)
  | [], _ :: _ => true
  | _, [] => false
def intOf : PyData → Option Int
  | .int i => some i
  | _ => none
/-- what is compared: an int; the first m things of a tuple, ints -/
def keyD (m : Nat) : PyData → List Int
  | .int i => [i]
  | .tuple xs => (xs.take m).filterMap intOf
  | _ => []
def leL (a b : List Int) : Bool := !lexL b a
def leD (m : Nat) (a b : PyData) : Bool := leL (keyD m a) (keyD m b)
theorem lex_total : ∀ a b : List Int, lexL a b = false → lexL b a = false → a = b
  | [], [], _, _ => rfl
  | [], _ :: _, h, _ => by simp [lexL] at h
  | _ :: _, [], _, h => by simp [lexL] at h
  | x :: xs, y :: ys, h, h' => by
    unfold lexL at h h'
    by_cases e : x = y
    · subst e
      rw [if_pos rfl] at h h'
      rw [lex_total xs ys h h']
    · rw [if_neg e] at h
      rw [if_neg fun z => e z.symm] at h'
      have a := of_decide_eq_false h
      have b := of_decide_eq_false h'
      omega
theorem lex_asym : ∀ a b : List Int, lexL a b = true → lexL b a = false
  | [], [], h => by simp [lexL] at h
  | [], _ :: _, _ => by simp [lexL]
  | _ :: _, [], h => by simp [lexL] at h
  | x :: xs, y :: ys, h => by
    unfold lexL at h ⊢
    by_cases e : x = y
    · subst e
      rw [if_pos rfl] at h ⊢
      exact lex_asym xs ys h
    · rw [if_neg e] at h
      rw [if_neg fun z => e z.symm]
      have a := of_decide_eq_true h
      exact decide_eq_false (by omega)
theorem lex_irr (a : List Int) : lexL a a = false := by
  cases q : lexL a a with
  | false => rfl
  | true => exact q.symm.trans (lex_asym a a q)
theorem lex_trans : ∀ a b c : List Int, lexL b a = false → lexL c b = false → lexL c a = false
  | [], b, c, h1, h2 => by
    cases b with
    | nil => exact h2
    | cons y ys =>
      cases c with
      | nil => simp [lexL] at h2
      | cons z zs => simp [lexL]
  | x :: xs, b, c, h1, h2 => by
    cases b with
    | nil => simp [lexL] at h1
    | cons y ys =>
      cases c with
      | nil => simp [lexL] at h2
      | cons z zs =>
        unfold lexL at h1 h2 ⊢
        by_cases e1 : y = x
        · subst e1
          rw [if_pos rfl] at h1
          by_cases e2 : z = y
          · subst e2
            rw [if_pos rfl] at h2 ⊢
            exact lex_trans xs ys zs h1 h2
          · rw [if_neg e2] at h2 ⊢
            exact h2
        · rw [if_neg e1] at h1
          have a := of_decide_eq_false h1
          by_cases e2 : z = y
          · subst e2
            rw [if_neg e1]
            exact h1
          · rw [if_neg e2] at h2
            have b := of_decide_eq_false h2
            rw [if_neg (by omega)]
            exact decide_eq_false (by omega)
theorem leL_total : PySem.W.TotalLe leL := by
  refine ⟨fun a b c h1 h2 => ?_, fun a b => ?_⟩
  · unfold leL at h1 h2 ⊢
    rw [Bool.not_eq_true'] at h1 h2 ⊢
    exact lex_trans a b c h1 h2
  · unfold leL
    cases q : lexL b a with
    | false => exact .inl rfl
    | true => rw [lex_asym b a q]; exact .inr rfl
theorem total_by {α β : Type} {le : β → β → Bool} (f : α → β) (h : PySem.W.TotalLe le) : PySem.W.TotalLe (fun a b => le (f a) (f b)) := ⟨fun _ _ _ => h.trans _ _ _, fun _ _ => h.total _ _⟩
theorem leD_total (m : Nat) : PySem.W.TotalLe (leD m) := total_by (keyD m) leL_total

/-- a tuple that begins with the ints ns, and the values behind them -/
def HdAt (h : Heap) (v : Value) (ns : List Int) (rest : List Value) : Prop := ∃ a o n is, v = .ref a ∧ h.get? a = some o ∧ o.cls = .type "tuple" ∧ o.data = .seq (is ++ rest).toArray n ∧ IntsAre is ns
theorem ints_uniq : ∀ {is js r r' : List Value} {ns ms : List Int}, IntsAre is ns → IntsAre js ms → ns.length = ms.length → is ++ r = js ++ r' → ns = ms ∧ r = r'
  | _, _, _, _, _, _, .nil, .nil, _, e => ⟨rfl, e⟩
  | _, _, _, _, _, _, .nil, .cons _ _ _, h, _ => by simp at h
  | _, _, _, _, _, _, .cons _ _ _, .nil, h, _ => by simp at h
  | _, _, _, _, _, _, .cons n t a, .cons m u b, h, e => by
    simp only [List.cons_append, List.cons.injEq, Value.int.injEq] at e
    obtain ⟨e1, e2⟩ := ints_uniq a b (by simpa using h) e.2
    exact ⟨by rw [e.1.1, e1], e2⟩
theorem HdAt.uniq {h : Heap} {v : Value} {ns ms : List Int} {r r' : List Value} (a : HdAt h v ns r) (b : HdAt h v ms r') (hl : ns.length = ms.length) : ns = ms ∧ r = r' := by
  obtain ⟨p, o, n, is, rfl, h1, _, h3, h4⟩ := a
  obtain ⟨p', o', n', js, e, g1, _, g3, g4⟩ := b
  cases e
  rw [h1] at g1
  cases g1
  rw [h3] at g3
  injection g3 with g3 _
  exact ints_uniq h4 g4 hl (by simpa using g3)
theorem HdAt.keeps {h h' : Heap} {v : Value} {ns : List Int} {r : List Value} (a : HdAt h v ns r) (k : ∀ b o, h.get? b = some o → o.cls = .type "tuple" → h'.get? b = some o) : HdAt h' v ns r := by
  obtain ⟨p, o, n, is, e, h1, h2, h3, h4⟩ := a
  exact ⟨p, o, n, is, e, k _ _ h1 h2, h2, h3, h4⟩
open Classical in
noncomputable def hdKey (h : Heap) (m : Nat) (v : Value) : List Int := if q : ∃ ns rest, ns.length = m ∧ HdAt h v ns rest then q.choose else []
theorem hdKey_eq {h : Heap} {m : Nat} {v : Value} {ns : List Int} {r : List Value} (hl : ns.length = m) (a : HdAt h v ns r) : hdKey h m v = ns := by
  have q : ∃ ns rest, ns.length = m ∧ HdAt h v ns rest := ⟨ns, r, hl, a⟩
  unfold hdKey
  rw [dif_pos q]
  obtain ⟨r', e, b⟩ := q.choose_spec
  exact (b.uniq a (e.trans hl.symm)).1
section
variable {prog : Program} {w : World} {A : Around} {E : Value → Shared → Prop} {s : Shared}
theorem lex_same {b : Bool} {Q : Bool → Shared → Prop} : ∀ (l : List Value) (i : Nat), Q false s → PySem.W.KatLex prog w A b false Q (l.zip l) i s
  | [], _, h => PySem.W.kat_nil h
  | v :: l, i, h => PySem.W.kat_cons (SeqAt.EqAt.same v prog w _ _ (PySem.W.kat_yes (lex_same l (i + 1) h)))
theorem lex_go {b : Bool} {Q : Bool → Shared → Prop} {fin : Bool} {r r' : List Value} : ∀ {is js : List Value} {ns ms : List Int} (i : Nat), IntsAre is ns → IntsAre js ms → ns.length = ms.length → (ns = ms → r = r' ∧ fin = false) → Q (lexL ns ms) s →
    PySem.W.KatLex prog w A b fin Q ((is ++ r).zip (js ++ r')) i s
  | _, _, _, _, i, .nil, .nil, _, he, h => by
    obtain ⟨e, e2⟩ := he rfl
    subst e e2
    exact lex_same r i (by simpa [lexL] using h)
  | _, _, _, _, _, .nil, .cons _ _ _, h, _, _ => by simp at h
  | _, _, _, _, _, .cons _ _ _, .nil, h, _, _ => by simp at h
  | _, _, _, _, i, .cons p t ha, .cons q u hb, hl, he, h => by
    refine PySem.W.kat_cons (SeqAt.EqAt.int_int p t q u prog w _ _ ?_)
    unfold lexL at h
    by_cases e : p = q
    · subst e
      rw [if_pos rfl] at h
      have e1 : decide (p = p) = true := decide_eq_true rfl
      refine PySem.W.kat_go (fun _ => PySem.W.kat_yes (lex_go (i + 1) ha hb (by simpa using hl) (fun z => he (by rw [z])) h)) (fun z => ?_)
      simp at z
    · rw [if_neg e] at h
      refine PySem.W.kat_go (fun z => ?_) (fun _ => PySem.W.kat_no ?_)
      · simp at z
        exact absurd z e
      · cases hb' : (b && i == 0) with
        | true => exact oneLt_int h
        | false => exact PySem.W.kat_one _ _ (PyProof.Rows.lt_int (Q := PySem.W.BoolBack Q) h)
/-- what is asked of the values sorted -/
def HdsOk (h : Heap) (m : Nat) (vs : List Value) : Prop := (∀ v ∈ vs, ∃ ns r, ns.length = m ∧ HdAt h v ns r) ∧ ∀ v ∈ vs, ∀ u ∈ vs, ∀ ns r r', ns.length = m → HdAt h v ns r → HdAt h u ns r' → r = r'
noncomputable def ltV (h : Heap) (m : Nat) (v u : Value) : Bool := lexL (hdKey h m v) (hdKey h m u)
theorem ltV_swo (h : Heap) (m : Nat) : SrtO.Swo (ltV h m) := ⟨fun x y => lex_asym _ _, fun x y z => lex_trans _ _ _⟩
theorem hds_cmp {h₀ : Heap} {m : Nat} {vs : List Value} (ok : HdsOk h₀ m vs) (k : ∀ b o, h₀.get? b = some o → o.cls = .type "tuple" → s.heap.get? b = some o) :
    SrtO.Cmp prog w A s (tuples' true) (fun p => p.1 ∈ vs) (SrtO.lt2 (ltV h₀ m)) := by
  intro p q hm hm'
  obtain ⟨ns, r, l1, h1⟩ := ok.1 _ hm
  obtain ⟨ms, r', l2, h2⟩ := ok.1 _ hm'
  have eq := ok.2 _ hm _ hm'
  show wpAny (model prog w) A (keyLt' (tuples' true) p.1 q.1) (fun x s' => s' = s ∧ x = lexL (hdKey h₀ m p.1) (hdKey h₀ m q.1)) (fun _ _ => False) s
  rw [hdKey_eq l1 h1, hdKey_eq l2 h2]
  have e' : ns = ms → r = r' := fun e => by subst e; exact eq _ _ _ l1 h1 h2
  obtain ⟨a, o, n, is, ea, g1, g2, g3, g4⟩ := h1.keeps k
  obtain ⟨a', o', n', js, ea', f1, f2, f3, f4⟩ := h2.keeps k
  rw [ea, ea']
  refine PySem.W.kat_lt g1 g3 f1 f3 ?_
  refine lex_go 0 g4 f4 (l1.trans l2.symm) (fun e => ⟨e' e, ?_⟩) ⟨rfl, rfl⟩
  have z1 := g4.length
  have z2 := f4.length
  rw [List.size_toArray, List.size_toArray, List.length_append, List.length_append, ← e' e, z1, z2, l1, l2]
  exact decide_eq_false (Nat.lt_irrefl _)
theorem hds_firsts {h : Heap} {m : Nat} (hm : 1 ≤ m) : ∀ vs : List Value, (∀ v ∈ vs, ∃ ns r, ns.length = m ∧ HdAt h v ns r) → ∃ fs, PySem.W.KatTups h vs fs ∧ fs.length = vs.length ∧ ∀ f, f ∈ fs → ∃ n t, f = Value.int n t
  | [], _ => ⟨[], PySem.W.KatTups.nil, rfl, fun f hf => by simp at hf⟩
  | v :: vs, x => by
    obtain ⟨fs, k, hl, hi⟩ := hds_firsts hm vs fun u hu => x u (List.mem_cons_of_mem _ hu)
    obtain ⟨ns, r, l1, a, o, n, is, rfl, g1, g2, g3, g4⟩ := x v List.mem_cons_self
    cases g4 with
    | nil => simp at l1; omega
    | @cons p t is ns g4 =>
      refine ⟨Value.int p t :: fs, PySem.W.KatTups.cons g1 g2 g3 (by simp) k, by simp [hl], fun f hf => ?_⟩
      rcases List.mem_cons.mp hf with rfl | hf
      · exact ⟨p, t, rfl⟩
      · exact hi f hf
theorem hds_sortable {a : Addr} {h₀ : Heap} {m : Nat} {vs : List Value} (hm : 1 ≤ m) (h0 : 0 < vs.length) (ok : HdsOk h₀ m vs) (k : ∀ b o, h₀.get? b = some o → o.cls = .type "tuple" → b ≠ a ∧ s.heap.get? b = some o) : SrtO.SortableO prog w A s a vs (ltV h₀ m) := by
  intro h' keep
  have k' : ∀ b o, h₀.get? b = some o → o.cls = .type "tuple" → h'.get? b = some o := fun b o e c => keep b o (k b o e c).1 (k b o e c).2
  obtain ⟨fs, h1, h2, h3⟩ := hds_firsts (h := h') hm vs fun v hv => by
    obtain ⟨ns, r, l, x⟩ := ok.1 v hv
    exact ⟨ns, r, l, x.keeps k'⟩
  refine ⟨tuples' true, fun Q E hq => ?_, hds_cmp ok k'⟩
  refine PySem.W.kat_kind (T := .type "int") h1 (by omega) (fun f hm => ?_) (by rfl) ?_
  · obtain ⟨x, t, rfl⟩ := h3 f hm
    exact PySem.W.Looks.now
  · have e : (Value.type "int" != Value.type "tuple") = true := by first | decide +kernel | rfl | decide
    rw [e]
    exact hq
theorem stb_sort {h : Heap} {m : Nat} {out vs : List Value} (h1 : SrtO.Srtd (ltV h m) out) (h2 : SrtO.Stb (ltV h m) out vs) : out = vs.mergeSort (fun v u => leL (hdKey h m v) (hdKey h m u)) := by
  refine PySem.W.sort_unique (total_by (hdKey h m) leL_total) (h1.imp fun {x y} z => ?_) fun c => ?_
  · show leL (hdKey h m x) (hdKey h m y) = true
    unfold leL
    have z' : lexL (hdKey h m y) (hdKey h m x) = false := z
    rw [z']
    rfl
  · have e := h2.cls c
    have ef : SrtO.eqv (ltV h m) c = PySem.W.sameRank (fun v u => leL (hdKey h m v) (hdKey h m u)) c := by
      funext a
      unfold SrtO.eqv PySem.W.sameRank leL ltV
      rw [Bool.and_comm]
    rw [ef] at e
    exact e
end
/-- tuples that begin with m ints; ones that begin alike hold nothing more -/
def tupOk (m : Nat) (ds : List PyData) : Prop := 1 ≤ m ∧ (∀ d ∈ ds, ∃ (ns : List Int) (r : List PyData), d = .tuple (ns.map PyData.int ++ r) ∧ ns.length = m) ∧ (ds.Pairwise fun d e => ∀ (ns : List Int) (r r' : List PyData), ns.length = m → d = .tuple (ns.map PyData.int ++ r) → e = .tuple (ns.map PyData.int ++ r') → r = [] ∧ r' = [])
def rSortT (K : PySem.W.Frag) : List V → Hp → VK → Prop := fun vs H Q => ∃ (a : Addr) (xs : List V) (ds : List PyData) (m : Nat) (R : V → PyData → Prop), vs = [V.ref a] ∧ SqL K H a xs ∧ PySem.W.EachIs R xs ds ∧ (∀ v d, R v d → Dp K H v d) ∧ tupOk m ds ∧
  ∀ (out : List V) (p : Addr), PySem.W.EachIs R out (ds.mergeSort (leD m)) → H p = none → Q (.ref p) (upd H p (.lst out))
theorem each_comp {R : V → PyData → Prop} : ∀ {xs : List V} {its : List Value} {ds : List PyData}, Vals xs its → PySem.W.EachIs R xs ds → PySem.W.EachIs (fun u d => ∃ v, RelV v u ∧ R v d) its ds
  | _, _, _, .nil, .nil => .nil
  | _, _, _, .cons h1 h2, .cons g1 g2 => .cons ⟨_, h1, g1⟩ (each_comp h2 g2)
theorem each_split {R : V → PyData → Prop} : ∀ {its : List Value} {ds : List PyData}, PySem.W.EachIs (fun u d => ∃ v, RelV v u ∧ R v d) its ds → ∃ xs, Vals xs its ∧ PySem.W.EachIs R xs ds
  | _, _, .nil => ⟨[], .nil, .nil⟩
  | _, _, .cons ⟨v, h1, h2⟩ t => by
    obtain ⟨xs, a, b⟩ := each_split t
    exact ⟨v :: xs, .cons h1 a, .cons h2 b⟩
theorem filt_ints : ∀ (ns : List Int), (ns.map PyData.int).filterMap intOf = ns
  | [] => rfl
  | n :: ns => by
    show (PyData.int n :: ns.map PyData.int).filterMap intOf = n :: ns
    rw [List.filterMap_cons]
    show n :: (ns.map PyData.int).filterMap intOf = n :: ns
    rw [filt_ints ns]
theorem keyD_hd {m : Nat} {ns : List Int} {r : List PyData} (hl : ns.length = m) : keyD m (.tuple (ns.map PyData.int ++ r)) = ns := by
  show (List.take m (ns.map PyData.int ++ r)).filterMap intOf = ns
  rw [List.take_append_of_le_length (by rw [List.length_map]; omega), List.take_of_length_le (by rw [List.length_map]; omega), filt_ints]
theorem vals_app {X : Cx} {H : Hp} : ∀ {ns : List Int} {r : List PyData} {xs : List V} {us : List Value}, DpAll X.K H xs (ns.map PyData.int ++ r) → Vals xs us → ∃ is rest xr, us = is ++ rest ∧ IntsAre is ns ∧ Vals xr rest ∧ DpAll X.K H xr r
  | [], r, xs, us, h, v => ⟨[], us, xs, rfl, .nil, v, h⟩
  | n :: ns, r, xs, us, h, v => by
    have h' : DpAll X.K H xs (PyData.int n :: (ns.map PyData.int ++ r)) := h
    cases h' with
    | cons h1 h2 =>
      cases h1
      cases v with
      | cons v1 v2 =>
        obtain ⟨t, rfl⟩ := v1
        obtain ⟨is, rest, xr, e, i, a, b⟩ := vals_app h2 v2
        exact ⟨.int n t :: is, rest, xr, by rw [e]; rfl, .cons n t i, a, b⟩
theorem cr_sortT {X : Cx} : CallR X (.builtin "sorted") (rSortT X.K) := by
  intro pins s σ H vs us Q I r h
  obtain ⟨a, xs, ds, m, R, rfl, hs, he, hR, ⟨hm, ok1, ok2⟩, q⟩ := h
  obtain ⟨its, rv, hl, hz⟩ := I.list hs
  rw [Vals.ref1 r]
  have ec := each_comp rv he
  -- each value by its place
  have hd : ∀ u d, (∃ v, RelV v u ∧ R v d) → ∀ (ns : List Int) (r : List PyData), d = .tuple (ns.map PyData.int ++ r) → ∃ rest xr, HdAt s.heap u ns rest ∧ Vals xr rest ∧ DpAll X.K H xr r := by
    rintro u d ⟨v, h1, h2⟩ ns r rfl
    have dp := hR _ _ h2
    cases dp with
    | tup hq ha =>
      obtain rfl : u = Value.ref _ := h1
      obtain ⟨ts, rt, ⟨o, ho, hc, n, hdt⟩, _⟩ := I.tuple hq
      obtain ⟨is, rest, xr, e, i, b1, b2⟩ := vals_app ha rt
      subst e
      exact ⟨rest, xr, ⟨_, o, n, is, rfl, ho, hc, hdt, i⟩, b1, b2⟩
  have hlen := ec.length
  have zat : ∀ v ∈ its, ∃ i : Nat, ∃ d, its[i]? = some v ∧ ds[i]? = some d ∧ ∃ x, RelV x v ∧ R x d := fun v hv => by
    obtain ⟨i, hi, e⟩ := List.getElem_of_mem hv
    have hi2 : i < ds.length := by omega
    have hz : (v, ds[i]) ∈ its.zip ds := List.mem_of_getElem? (i := i) (by rw [List.getElem?_zip_eq_some]; exact ⟨by rw [List.getElem?_eq_getElem hi, e], List.getElem?_eq_getElem hi2⟩)
    exact ⟨i, ds[i], by rw [List.getElem?_eq_getElem hi, e], List.getElem?_eq_getElem hi2, ec.zip _ hz⟩
  have ok : HdsOk s.heap m its := by
    refine ⟨fun v hv => ?_, fun v hv u hu ns r r' l h1 h2 => ?_⟩
    · obtain ⟨i, d, _, e2, x⟩ := zat v hv
      obtain ⟨ns, r, e, l⟩ := ok1 d (List.mem_of_getElem? e2)
      obtain ⟨rest, _, h1, _, _⟩ := hd v d x ns r e
      exact ⟨ns, rest, l, h1⟩
    · obtain ⟨i, d, a1, a2, x⟩ := zat v hv
      obtain ⟨j, e, b1, b2, y⟩ := zat u hu
      by_cases ij : i = j
      · subst ij
        rw [a1] at b1
        cases b1
        exact (h1.uniq h2 rfl).2
      · obtain ⟨ns1, r1, c1, c2⟩ := ok1 d (List.mem_of_getElem? a2)
        obtain ⟨ns2, r2, c3, c4⟩ := ok1 e (List.mem_of_getElem? b2)
        obtain ⟨t1, xr1, d1, d2, d3⟩ := hd v d x ns1 r1 c1
        obtain ⟨t2, xr2, d4, d5, d6⟩ := hd u e y ns2 r2 c3
        obtain ⟨f1, f2⟩ := d1.uniq h1 (c2.trans l.symm)
        obtain ⟨f3, f4⟩ := d4.uniq h2 (c4.trans l.symm)
        subst f1 f2 f3 f4
        have no : r1 = [] ∧ r2 = [] := by
          have hi : i < ds.length := (List.getElem?_eq_some_iff.mp a2).1
          have hj : j < ds.length := (List.getElem?_eq_some_iff.mp b2).1
          have ei : ds[i] = d := (List.getElem?_eq_some_iff.mp a2).2
          have ej : ds[j] = e := (List.getElem?_eq_some_iff.mp b2).2
          rcases Nat.lt_or_gt_of_ne ij with z | z
          · exact List.pairwise_iff_getElem.mp ok2 i j hi hj z _ r1 r2 l (ei.trans c1) (ej.trans c3)
          · exact (List.pairwise_iff_getElem.mp ok2 j i hj hi z _ r2 r1 l (ej.trans c3) (ei.trans c1)).symm
        obtain ⟨z1, z2⟩ := no
        subst z1 z2
        cases d3
        cases d6
        cases d2
        cases d5
        rfl
  refine SrtO.sorted_ord (ltV_swo s.heap m) hl.isList (by rw [← rv.length]; exact hz) (fun h2 h₁ a' ha kk => ?_) fun out h1 h2 => ?_
  · refine hds_sortable (s := { s with heap := h₁ }) hm (by omega) ok fun b o e c => ⟨?_, (kk b o e).2⟩
    exact (kk b o e).1
  · have eo := stb_sort h1 h2
    have each : PySem.W.EachIs (fun u d => ∃ v, RelV v u ∧ R v d) out (ds.mergeSort (leD m)) := by
      rw [eo]
      refine PySem.W.sort_each ec fun p hp q hq => ?_
      have key : ∀ p ∈ its.zip ds, hdKey s.heap m p.1 = keyD m p.2 := fun p hp => by
        obtain ⟨ns, r, e, l⟩ := ok1 p.2 (List.of_mem_zip hp).2
        obtain ⟨rest, _, g1, _, _⟩ := hd p.1 p.2 (ec.zip p hp) ns r e
        rw [hdKey_eq l g1, e, keyD_hd l]
      show leL (hdKey s.heap m p.1) (hdKey s.heap m q.1) = leL (keyD m p.2) (keyD m q.2)
      rw [key p hp, key q hq]
    obtain ⟨zs, v1, v2⟩ := each_split each
    obtain ⟨ep, he'⟩ := PyProof.Rows.sortedAll_at s.heap its out.toArray
    have hlen2 : zs.length ≤ sizeLine := by
      rw [v2.length, List.length_mergeSort, ← he.length]
      exact hz
    exact ⟨.ref _, upd H (s.heap.objs.size + 1) (.lst zs), I.laid (t' := s.toks) (fun _ _ => PyProof.Rows.sortedAll_old) (Nat.le_succ _) ⟨hlen2, out, ep, v1, he'⟩, rfl, q _ _ v2 (I.hok.fresh (Nat.le_succ _))⟩

theorem dps_each {K : PySem.W.Frag} {H : Hp} : ∀ {vs : List V} {ds : List PyData}, DpAll K H vs ds → PySem.W.EachIs (Dp K H) vs ds
  | _, _, .nil => .nil
  | _, _, .cons a b => .cons a (dps_each b)
theorem each_dps {K : PySem.W.Frag} {H : Hp} : ∀ {vs : List V} {ds : List PyData}, PySem.W.EachIs (Dp K H) vs ds → DpAll K H vs ds
  | _, _, .nil => .nil
  | _, _, .cons a b => .cons a (each_dps b)
theorem ints_get {K : PySem.W.Frag} {H : Hp} : ∀ {vs : List V} {ds : List PyData}, DpAll K H vs ds → (∀ d ∈ ds, ∃ i, d = PyData.int i) → ∃ ns : List Int, vs = ns.map V.int ∧ ds = ns.map PyData.int
  | _, _, .nil, _ => ⟨[], rfl, rfl⟩
  | _, _, .cons a b, h => by
    obtain ⟨i, rfl⟩ := h _ List.mem_cons_self
    obtain ⟨ns, e1, e2⟩ := ints_get b fun d hd => h d (List.mem_cons_of_mem _ hd)
    cases a
    exact ⟨i :: ns, by rw [e1]; rfl, by rw [e2]; rfl⟩
theorem sort_ints {ns ms : List Int} (hp : ms.Perm ns) (hs : ms.Pairwise (· ≤ ·)) : ms.map PyData.int = (ns.map PyData.int).mergeSort (leD 1) := by
  have e1 : ∀ a b : Int, leD 1 (.int a) (.int b) = decide (a ≤ b) := fun a b => by
    unfold leD leL keyD lexL
    by_cases e : b = a
    · subst e
      rw [if_pos rfl]
      simp [lexL]
    · rw [if_neg e]
      by_cases z : b < a
      · rw [decide_eq_true z, decide_eq_false (by omega)]
        rfl
      · rw [decide_eq_false z, decide_eq_true (by omega)]
        rfl
  have tot : PySem.W.TotalLe (fun a b : Int => decide (a ≤ b)) := ⟨fun a b c h1 h2 => by
    have := of_decide_eq_true h1
    have := of_decide_eq_true h2
    exact decide_eq_true (by omega), fun a b => by
    by_cases z : a ≤ b
    · exact .inl (decide_eq_true z)
    · exact .inr (decide_eq_true (by omega))⟩
  rw [← PySem.W.sort_maps (r := fun a b : Int => decide (a ≤ b)) PyData.int (fun a _ b _ => (e1 a b).symm)]
  congr 1
  have s2 := PySem.W.sort_pairwise tot ns
  have p2 : ms.Perm (ns.mergeSort fun a b => decide (a ≤ b)) := hp.trans (List.mergeSort_perm _ _).symm
  exact List.Perm.eq_of_pairwise (le := fun a b : Int => a ≤ b) (fun a b _ _ h1 h2 => by omega) hs (s2.imp fun {a b} z => of_decide_eq_true z) p2
def rdSorted : DRF := fun xs h Q => match xs with
  | [x] => match asL h x with
    | some ds => ((∀ d ∈ ds, ∃ i, d = PyData.int i) ∧ Q (ds.mergeSort (leD 1)) h) ∨ ∃ m, tupOk m ds ∧ Q (ds.mergeSort (leD m)) h
    | none => False
  | _ => False
def rSortA (K : PySem.W.Frag) : List V → Hp → VK → Prop := fun vs H Q => rSortedI K vs H Q ∨ rSortT K vs H Q
theorem cr_sort {X : Cx} : CallR X (.builtin "sorted") (rSortA X.K) := CallR.or cr_sortedI cr_sortT
theorem lf_sort {K : PySem.W.Frag} : LRF K Γ rdSorted (rSortA K) := by
  refine ⟨fun xs h Q Q' k w => ?_, fun xs vs H h C Q r rm w k => ?_⟩
  · unfold rdSorted at w ⊢
    split at w
    · split at w
      · exact w.imp (fun z => ⟨z.1, k _ _ z.2⟩) fun ⟨m, z1, z2⟩ => ⟨m, z1, k _ _ z2⟩
      · exact w
    · exact w
  · unfold rdSorted at w
    split at w
    · obtain ⟨v, rfl, rv⟩ := rvs1 r
      split at w
      · rename_i ds e1
        obtain ⟨a, vs, rfl, s1, d1⟩ := asL_ok rv rm e1
        rcases w with ⟨hi, w⟩ | ⟨m, ok, w⟩
        · obtain ⟨ns, rfl, rfl⟩ := ints_get d1 hi
          refine .inl ⟨a, ns, rfl, s1, fun ns' p hp hs hq => ?_⟩
          rw [← sort_ints hp hs] at w
          exact k _ _ _ H p PX.refl (dps_ints ns') rm w hq
        · exact .inr ⟨a, vs, ds, m, Dp K (Fz Γ H h), rfl, s1, dps_each d1, fun v d z => dp_up fz_sub _ _ z, ok, fun out p ho hq => k _ _ _ H p PX.refl (each_dps ho) rm w hq⟩
      · exact w.elim
    · exact w.elim
end DL

namespace DL
open PySem PySem.Spec PyProof.Rows L2
set_option autoImplicit true

/-! ## sorted by the second, then the first thing of tuples: a lambda -/
abbrev byE (x : Str) (p1 p2 p3 p4 p5 p6 p7 : Pos) (k0 k1 k2 : Nat) : Expr := .Tuple [.Subscript (.Name x p1) (.Constant (.int 1) k1 p2) p3, .Subscript (.Name x p4) (.Constant (.int 0) k2 p5) p6] k0 p7
section
variable {prog : Program} {w : World} {A : Around} {s : Shared}
/-- v, a tuple that begins with the ints p, r -/
def Hd2 (h : Heap) (v : Value) (p r : Int) : Prop := ∃ a its, v = .ref a ∧ IsTup h a its ∧ ∃ t u : Tok, its[0]? = some (.int p t) ∧ its[1]? = some (.int r u)
theorem Hd2.keeps {h h' : Heap} {v : Value} {p r : Int} (k : ∀ b o, h.get? b = some o → h'.get? b = some o) (x : Hd2 h v p r) : Hd2 h' v p r := by
  obtain ⟨a, its, e, ⟨o, g1, g2, n, g3⟩, y⟩ := x
  exact ⟨a, its, e, ⟨o, k _ _ g1, g2, n, g3⟩, y⟩
theorem by_call {f c' : Addr} {x qual : Str} {params : Arguments} {scope : Scope} {cl : List (Str × Addr)} {pm ctv v : Value} {p r : Int} {p1 p2 p3 p4 p5 p6 p7 : Pos} {k0 k1 k2 : Nat}
    (hroom : A.depth < recursionLimit) (ho : s.heap.get? f = some (PySem.W.kla_obj "<lambda>" qual params (byE x p1 p2 p3 p4 p5 p6 p7 k0 k1 k2) scope cl pm c' ctv)) (hlim : s.heap.NoLimit) (hcd : s.heap.CodeRec (.ref c') qual)
    (hk : scope.kind = .function) (hco : scope.isCoroutine = false) (hgen : scope.isGenerator = false) (hc : ∀ y ∈ scope.names, y.2 ≠ .cell) (hx : scope.names.lookup x = some .local)
    (hbind : bindArgs (PySem.W.kla_fn "<lambda>" qual params (byE x p1 p2 p3 p4 p5 p6 p7 k0 k1 k2) scope cl pm (.ref c') ctv) ⟨[v], []⟩ = pure [(x, v)]) (hv : Hd2 s.heap v p r) (hdb : (x == ("__debug__" : Str)) = false) :
    wpAny (model prog w) A (call (.ref f) [v]) (PySem.W.KeyPure (.tuple [.int r, .int p]) s) (fun _ _ => False) s := by
  refine wpAny_call (codeAny_mono (R := fun res s' => ∃ u, res = .ok (.ret u) ∧ PySem.W.KeyPure (.tuple [.int r, .int p]) s u s') ?_ ?_)
  · refine PySem.W.kla_callFunE hroom ho rfl hco hgen rfl hcd ?_
    rw [hbind]
    refine wpAny_pure (wpAny_newFunctionEnv hc (fun y hy => ?_) (fun h₁ hns hsb => ⟨hlim.fresh _ hsb, ?_⟩) hk)
    · obtain rfl : y = (x, v) := List.mem_singleton.mp hy
      exact hx
    · have kp : ∀ b o, s.heap.get? b = some o → h₁.get? b = some o := fun b o e => hsb.extBut b o (Nat.ne_of_lt (Heap.lt_size e)) (Heap.get?_push_of_some _ e)
      obtain ⟨a, its, rfl, it, t, u, e0, e1⟩ := hv.keeps kp
      have lx : ([(x, Value.ref a)] : List (Str × Value)).reverse.lookup x = some (.ref a) := by simp
      refine PySem.W.kla_codeExpr ?_
      have sub : ∀ (g : Heap) (tk : Nat) (i : Int) (j : Nat) (y : Value) (q1 q2 q3 : Pos) (kk : Nat) (env : Env) (A' : Around) (Q : Value → Shared → Prop) (E : Value → Shared → Prop), g = h₁ → env.scope.kind = .function → env.kindOf x = some .local → env.locals = s.heap.objs.size →
          seqIndex? i its.size = some j → its[j]? = some y → -(2 ^ 63) ≤ i → i < 2 ^ 63 → (∀ tk', Q y { s with heap := h₁, toks := tk' }) → wpAny (model prog w) A' (eval (.Subscript (.Name x q1) (.Constant (.int i) kk q2) q3) env) Q E { s with heap := g, toks := tk } := by
        intro g tk i j y q1 q2 q3 kk env A' Q E eg ek ex el hj hy hi1 hi2 hq
        subst eg
        refine Subscript_ (wpAny_Name (wpAny_loadName_local ek ex (by rw [el]; exact hns) lx ?_) hdb)
        refine wpAny_Constant_int ?_
        exact subscriptTail_builtinR (x := y) it.typeIs slot_tuple_getitem.lookup (getItem_tuple (j := j) (Q := fun r s' => r = y ∧ Q r s') it hi1 hi2 hj hy ⟨rfl, hq _⟩) rfl
      have sz : 2 ≤ its.size := by
        have := (Array.getElem?_eq_some_iff.mp e1).1
        omega
      have j0 : seqIndex? 0 its.size = some 0 := by
        show (if (decide ((0 : Int) ≤ 0) && decide ((0 : Int) < (its.size : Int))) = true then some (0 : Int).toNat else none) = some 0
        rw [if_pos (by rw [Bool.and_eq_true]; exact ⟨rfl, decide_eq_true (by omega)⟩)]
        rfl
      have j1 : seqIndex? 1 its.size = some 1 := by
        show (if (decide ((0 : Int) ≤ 1) && decide ((1 : Int) < (its.size : Int))) = true then some (1 : Int).toNat else none) = some 1
        rw [if_pos (by rw [Bool.and_eq_true]; exact ⟨rfl, decide_eq_true (by omega)⟩)]
        rfl
      refine wpAny_Tuple ?_
      show wpAny _ _ (spliced [(false, _), (false, _)]) _ _ _
      refine Calls.spliced_cons (sub h₁ _ 1 1 _ _ _ _ _ _ _ _ _ rfl hk hx rfl j1 e1 (by decide) (by decide) fun tk1 => ?_)
      refine Calls.spliced_cons (sub h₁ _ 0 0 _ _ _ _ _ _ _ _ _ rfl hk hx rfl j0 e0 (by decide) (by decide) fun tk2 => ?_)
      refine Calls.spliced_nil ⟨by show 2 ≤ sizeLine; rw [sizeLine_eq]; decide, ?_⟩
      refine ⟨_, rfl, _, tk2, rfl, fun b o e => Heap.get?_push_of_some _ (kp b o e), ?_⟩
      exact Reads.tuple (Heap.get?_push_size _ rfl) rfl rfl (.cons (.int r u) (.cons (.int p t) .nil))
  · rintro res s' ⟨u, rfl, h⟩
    exact h
end

/-! ## in a def -/
def rowOf : PyData → Int
  | .tuple (_ :: .int r :: _) => r
  | _ => 0
def placeOf : PyData → Int
  | .tuple (.int p :: _) => p
  | _ => 0
def byOk (ds : List PyData) : Prop := ∀ d ∈ ds, ∃ p r rest, d = .tuple (.int p :: .int r :: rest)
def leBy (a b : PyData) : Bool := leL [rowOf a, placeOf a] [rowOf b, placeOf b]
theorem leBy_eq : leBy = fun a b => decide (rowOf a < rowOf b ∨ (rowOf a = rowOf b ∧ placeOf a ≤ placeOf b)) := by
  funext a b
  unfold leBy leL lexL
  by_cases e : rowOf b = rowOf a
  · rw [if_pos e]
    unfold lexL
    by_cases z : placeOf b = placeOf a
    · rw [if_pos z]
      unfold lexL
      rw [decide_eq_true (by omega)]
      rfl
    · rw [if_neg z]
      by_cases y : placeOf b < placeOf a
      · rw [decide_eq_true y, decide_eq_false (by omega)]
        rfl
      · rw [decide_eq_false y, decide_eq_true (by omega)]
        rfl
  · rw [if_neg e]
    by_cases y : rowOf b < rowOf a
    · rw [decide_eq_true y, decide_eq_false (by omega)]
      rfl
    · rw [decide_eq_false y, decide_eq_true (by omega)]
      rfl
def fBy (t : DTA) : DTF := fun σ h Q => t σ h fun xs h1 => match xs with
  | [x] => match asQ h1 x with
    | some ds => byOk ds ∧ Q (ds.mergeSort leBy) h1
    | none => False
  | _ => False
theorem extn_sq {K : PySem.W.Frag} {H H' : Hp} {a : Addr} {xs : List V} (e : LamX.ExtN H H') (r : SqL K H a xs) : SqL K H' a xs := by
  rcases r with (r | ⟨o, r⟩) | r
  · exact .inl (.inl (e _ _ r fun ps z => by cases z))
  · exact .inl (.inr ⟨o, e _ _ r fun ps z => by cases z⟩)
  · exact .inr r
/-- what is tracked is there -/
theorem obj_there {P : Program} {w : World} {H : Hp} {h : Heap} {a : Addr} {o : HO} (x : ObjOk P w H h a o) : ∃ u, h.get? a = some u := by
  cases o with
  | lst xs => obtain ⟨_, _, _, _, q⟩ := x; exact ⟨_, q⟩
  | tup xs => obtain ⟨_, _, _, ⟨_, q, _⟩⟩ := x; exact ⟨_, q⟩
  | dK kvs => obtain ⟨_, _, _, _, _, _, _, q, _⟩ := x; exact ⟨_, q⟩
  | dT kvs => obtain ⟨_, _, _, _, _, _, _, q, _⟩ := x; exact ⟨_, q⟩
  | set S n => obtain ⟨_, _, _, _, q, _⟩ := x; exact ⟨_, q⟩
  | ins C dx fs => obtain ⟨_, _, _, q, _⟩ := x; exact ⟨_, q⟩
  | own y => obtain ⟨_, q⟩ := x; exact ⟨_, q⟩
  | xd fs => obtain ⟨_, ⟨_, _, _, q, _⟩, _⟩ := x; exact ⟨_, q⟩
  | rng lo hi => obtain ⟨_, _, _, q⟩ := x; exact ⟨_, q⟩
  | frz ob u => obtain ⟨q, _⟩ := x; exact ⟨_, q⟩
  | tbl ps => exact ⟨_, show h.get? a = some _ from x⟩
  | met f y => exact ⟨_, show h.get? a = some _ from x⟩
  | ext φ => obtain ⟨_, ⟨_, q⟩, _⟩ := x; exact ⟨_, q⟩
theorem extn_sqT {K : PySem.W.Frag} {H H' : Hp} {a : Addr} {xs : List V} (e : LamX.ExtN H H') (r : SqT K H a xs) : SqT K H' a xs := by
  rcases r with (r | ⟨o, r⟩) | r
  · exact .inl (.inl (e _ _ r fun ps z => by cases z))
  · exact .inl (.inr ⟨o, e _ _ r fun ps z => by cases z⟩)
  · exact .inr r
section
variable {prog : Program} {w : World} {A : Around} {EX : Value → Shared → Prop} {s : Shared} {β : Type} {vs : List Value} {bs : List β} {R : Value → β → Prop}
open PySem.W in
/-- sorted(a tuple, key=f) -/
theorem sortedT_key {l : Addr} {f : Value} {kw : List (Str × Value)} {Q : Value → Shared → Prop} (k : β → PyData) (tt : IsTup s.heap l vs.toArray) (e : EachIs R vs bs) (al : AllAlike (bs.map k)) (so : Sortable (bs.map k)) (big : bs.length ≤ sizeLine)
    (dp : ∀ x, x ∈ bs → A.units + 2 + (k x).depth < cLine) (a1 : argsOk "sorted" ⟨[.ref l], kw⟩) (a2 : ∀ x, argsOk "list.sort" ⟨[.ref x], kw⟩) (tr : ∀ x, Builtin.«list.sort» ⟨[.ref x], kw⟩ = ksk_tree x f false)
    (turn : ∀ (v : Value) (x : β), R v x → x ∈ bs → ∀ (g : Heap) (tk : Nat), (∀ b u, s.heap.get? b = some u → g.get? b = some u) → wpAny (model prog w) A.in1.in1 (call f [v]) (KeyPure (k x) { s with heap := g, toks := tk }) (fun _ _ => False) { s with heap := g, toks := tk })
    (fin : ∀ out c g tk p, (∀ b u, s.heap.get? b = some u → g.get? b = some u) → s.heap.get? p = none → g.get? p = some (seqObj "list" (List.toArray out) c) → EachIs R out (bs.mergeSort (dataLe false k)) → Q (.ref p) { s with heap := g, toks := tk }) :
    wpAny (model prog w) A (call (.builtin "sorted") [.ref l] kw) Q EX s := by
  have vl : vs.length ≤ sizeLine := by rw [e.length]; exact big
  obtain ⟨o, ho, hc, n, hd⟩ := id tt
  refine call_function_entry_kw kind_sorted plain_sorted entry_sorted a1 ?_
  unfold Builtin.«sorted»
  refine wpAny_bind (m := checkCount "sorted" 1 1 _) (wpAny_pure ?_)
  refine wpAny_bind (wpAny_collect_seq l (.inr rfl) ho hc hd (fun h1 k1 => ?_) (by rw [List.size_toArray]; exact vl))
  refine wpAny_bind (wpAny_newList ?_ (by simpa using vl))
  have nn : s.heap.get? h1.objs.size = none := by
    cases q : s.heap.get? h1.objs.size with
    | none => rfl
    | some u => exact absurd (Heap.lt_size (k1 _ _ q)) (Nat.lt_irrefl _)
  have at_ : (h1.push { cls := .type "list", data := .seq vs.toArray.toList.toArray }).get? h1.objs.size = some (seqObj "list" vs.toArray 0) := by
    simpa using Heap.get?_push_size h1 (o := { cls := .type "list", data := .seq vs.toArray }) rfl
  have up : ∀ {g : Heap}, KeepsBut h1.objs.size (h1.push { cls := .type "list", data := .seq vs.toArray.toList.toArray }) g → ∀ b u, s.heap.get? b = some u → g.get? b = some u := fun {g} kb b u q =>
    kb b u (fun z => by rw [z, nn] at q; cases q) (Heap.get?_push_of_some _ (k1 b u q))
  refine wpAny_bind (wpAny_holding (list_sort_key_data (b := false) (A := A.in1) (s := { s with heap := h1.push { cls := .type "list", data := .seq vs.toArray.toList.toArray } }) k at_ e al so big (fun x hx => by have := dp x hx; show A.units + 1 + 1 + _ < _; omega) (a2 _) (tr _)
    (fun v x hR hx g tk kb => turn v x hR hx g tk (up kb)) fun out c g tk kb go _ eo => ?_))
  exact wpAny_pure ⟨_, rfl, fin out c g tk _ (up kb) nn go eo⟩
end
theorem extn_px {K : PySem.W.Frag} {H H' : Hp} {h : MH} (e : LamX.ExtN H H') (rm : RM K Γ H h) : PX Γ H h H' h :=
  ⟨fun b o q => by
    obtain ⟨q1, q2, q3, q4⟩ := Fz.to q
    exact Fz.of (e _ _ q1 q4) q2 q3 q4, fun b hb => by
    obtain ⟨_, xs, z⟩ := rm.nx b hb
    rw [z]
    exact e _ _ z fun ps y => by cases y⟩
theorem extn_rm {K : PySem.W.Frag} {H H' : Hp} {h : MH} (e : LamX.ExtN H H') (t : LamX.Tabs Γ.T H') (rm : RM K Γ H h) : RM K Γ H' h := by
  have px := extn_px e rm
  refine ⟨fun b m q => ?_, Γ.st px rm.g, fun b hb => ?_, t⟩
  · obtain ⟨u, e1, e2⟩ := ro_at (rm.ob b m q)
    exact ro_of (e _ _ e1 (fun ps y => by subst y; exact not_plain_tbl (rof_plain e2))) (rof_up px.ex e2)
  · obtain ⟨z1, xs, z2⟩ := rm.nx b hb
    exact ⟨z1, xs, e _ _ z2 (fun ps y => by cases y)⟩
/-- what a lambda asks of its def's code object -/
def TabOf (base : Heap) (mg : Str → Option Value) (T : List (Addr × Str)) (cdv : Value) (qual : Str) : Prop := ∃ c P, cdv = .ref c ∧ LamX.TabB base mg c P ∧ (P, qual ++ "<lambda>") ∈ T ∧ ∀ p ∈ T, p.1 = P → p.2 = qual ++ "<lambda>"
theorem df_by {X : Cx} {k : Nat} {e : Expr} {t : DTA} {x : Str} {params : Arguments} {scope : Scope} {p pos lpos kpos p1 p2 p3 p4 p5 p6 p7 : Pos} {k0 k1 k2 : Nat} (hr : Room k X.A) (hg : Gl X "sorted") (hm : X.mg "sorted" = none) (ha : DA X Γ [e] t)
    {T : List (Addr × Str)} (hΓ : Γ.T = T) (hT : TabOf X.base X.mg T X.env.code X.env.qual) (hdef : defaultsOf params X.env = ([], []) := by rfl)
    (hbind : ∀ (q : Str) (pm cv ctv v : Value), bindArgs (PySem.W.kla_fn "<lambda>" q params (byE x p1 p2 p3 p4 p5 p6 p7 k0 k1 k2) scope [] pm cv ctv) ⟨[v], []⟩ = pure [(x, v)] := by intro _ _ _ _ _; rfl)
    (hk : scope.kind = .function := by rfl) (hco : scope.isCoroutine = false := by rfl) (hgen : scope.isGenerator = false := by rfl) (hnm : scope.names = [(x, .local)] := by rfl) (hdx : (x == ("__debug__" : Str)) = false := by decide)
    (he : backTo pos (starEach [e] X.env) = (false, eval e X.env) :: backTo pos (starEach [] X.env) := by rfl) (hpl : (backTo pos (starEach [e] X.env)).any (·.1) = false := by rfl)
    (hky : backToKw pos (keywordEach [⟨some "key", .Lambda params (byE x p1 p2 p3 p4 p5 p6 p7 k0 k1 k2) scope lpos, kpos⟩] X.env) = [(some ("key" : Str), do let v ← eval (.Lambda params (byE x p1 p2 p3 p4 p5 p6 p7 k0 k1 k2) scope lpos) X.env; standAt pos; pure v)] := by rfl) :
    DF X Γ (.Call (.Name "sorted" p) [e] [⟨some "key", .Lambda params (byE x p1 p2 p3 p4 p5 p6 p7 k0 k1 k2) scope lpos, kpos⟩] pos) (fBy t) := by
  subst hΓ
  refine ⟨fun σ h Q Q' k w => ha.mono _ _ _ _ (fun xs h1 w1 => by
    split at w1
    · split at w1
      · exact ⟨w1.1, k _ _ w1.2⟩
      · exact w1
    · exact w1) w, ⟨fun pins s σ H Q I w => ?_⟩⟩
  obtain ⟨σd, h, rs, rm, w⟩ := w
  refine wpAny_Call_Name_kw (ld_blt I hg hm (by rfl) ?_)
  refine PyProof.Rows.callWith_kw (thn (ha.pa.run pos pins s σ H (fun vs H1 => ∃ xs h1, PX Γ H h H1 h1 ∧ RVs X.K Γ H1 h1 xs vs ∧ RSt X.K Γ H1 h1 σd σ ∧ RM X.K Γ H1 h1 ∧ _) I
    (lift_mk ha.mono rs rm w fun xs h1 vs H1 px rs1 rvs rm1 w1 => ⟨xs, h1, px, rvs, rs1, rm1, w1⟩)) fun us s1 hq => ?_) he hpl (by rw [hky]; rfl) (by rw [hky]; rfl)
  obtain ⟨vs, H1, I1, r, xs, h1, px, rvs, rs1, rm1, w1⟩ := hq
  split at w1
  · rename_i y
    obtain ⟨v, rfl, rv⟩ := rvs1 rvs
    split at w1
    · rename_i ds e1
      obtain ⟨a, ws, rfl, s2, d2⟩ := asQ_ok rv rm1 e1
      rw [Vals.ref1 r, hky]
      obtain ⟨c, P, hcode, TB, hmT, hu⟩ := hT
      have hfree : ∀ y ∈ scope.names, y.2 = .free → ∃ c, X.env.cells.lookup y.1 = some c := fun y hy ef => by
        rw [hnm] at hy
        obtain rfl := List.mem_singleton.mp hy
        cases ef
      have hclo : cloFrom X.env.cells scope.names [] = [] := by
        rw [hnm]
        rfl
      refine wpAny_evalAll_cons (wpAny_bind (LamX.lam_make2 I1 TB hcode hmT hu rm1.tb hdef hfree fun f c' pm ctv H2 s2' I2 eN T2 hf hfn hfr hco' => wpAny_bind (wpAny_standAt (wpAny_pure ?_))))
      refine wpAny_evalAll_nil ?_
      show wpAny _ _ (call (.builtin "sorted") [.ref a] [((Str.ofString "key"), .ref f)]) _ _ _
      have px2 := extn_px (Γ := Γ) eN rm1
      have rm2 := extn_rm eN T2 rm1
      obtain ⟨its, rvi, hlt, hz⟩ : ∃ its : List Value, Vals ws its ∧ (PlainL s2'.heap a its.toArray ∨ IsTup s2'.heap a its.toArray) ∧ ws.length ≤ sizeLine := by
        rcases s2 with s2 | s2
        · obtain ⟨its, g1, g2, g3⟩ := I2.list (extn_sq eN s2)
          exact ⟨its, g1, .inl g2, g3⟩
        · obtain ⟨its, g1, g2, g3⟩ := I2.tuple (extn_sqT eN s2)
          exact ⟨its, g1, .inr g2, g3⟩
      have ds2 : DpAll X.K (Fz Γ H2 h1) ws ds := dps_up px2.ex _ _ d2
      have ec : PySem.W.EachIs (fun u d => ∃ v, RelV v u ∧ Dp X.K (Fz Γ H2 h1) v d) its ds := each_comp rvi (dps_each ds2)
      have lim := I2.nolimit
      obtain ⟨⟨oc, vc, tc, ho1, ho2, ho3⟩, _, _⟩ := I2.hok c' _ hco'
      have hd2 : ∀ u d, (∃ v, RelV v u ∧ Dp X.K (Fz Γ H2 h1) v d) → d ∈ ds → Hd2 s2'.heap u (placeOf d) (rowOf d) := by
        rintro u d ⟨v, g1, g2⟩ hm'
        obtain ⟨p, r, rest, rfl⟩ := w1.1 d hm'
        cases g2 with
        | tup hq hall =>
          obtain rfl : u = Value.ref _ := g1
          obtain ⟨ts, rt, it, _⟩ := I2.tuple (sqT_up fz_sub hq)
          cases hall with
          | cons q1 hall => cases hall with
            | cons q2 hall =>
              cases q1
              cases q2
              cases rt with
              | cons z1 rt => cases rt with
                | cons z2 rt =>
                  obtain ⟨t1, rfl⟩ := z1
                  obtain ⟨t2, rfl⟩ := z2
                  exact ⟨_, _, rfl, it, t1, t2, by simp [placeOf], by simp [rowOf]⟩
      have key_depth : ∀ d : PyData, (PyData.tuple [.int (rowOf d), .int (placeOf d)]).depth = 1 := fun d => by simp [PyData.depth, PyData.depthAll]
      have un := hr.un
      have turn1 : ∀ (u : Value) (d : PyData), (∃ v, RelV v u ∧ Dp X.K (Fz Γ H2 h1) v d) → d ∈ ds → ∀ (g : Heap) (tk : Nat), (∀ b o, s2'.heap.get? b = some o → g.get? b = some o) →
          wpAny (model X.prog X.w) X.A.in1.in1 (call (.ref f) [u]) (PySem.W.KeyPure (.tuple [.int (rowOf d), .int (placeOf d)]) { s2' with heap := g, toks := tk }) (fun _ _ => False) { s2' with heap := g, toks := tk } := fun u d hR hm' g tk kp => by
        have hdep : X.A.in1.in1.depth < recursionLimit := by
          have := hr.dp
          show X.A.depth < _
          omega
        refine by_call (s := { s2' with heap := g, toks := tk }) hdep (by rw [← hclo]; exact kp _ _ hf) (lim.keeps kp) ⟨c', oc, vc, tc, rfl, kp _ _ ho1, ho2, ho3⟩ hk hco hgen (fun y hy => ?_) ?_ (hbind _ _ _ _ _) ((hd2 u d hR hm').keeps kp) hdx
        · rw [hnm] at hy
          obtain rfl := List.mem_singleton.mp hy
          intro z
          cases z
        · rw [hnm]
          simp
      have fin1 : ∀ (out : List Value) (c2 : Nat) (g : Heap) (tk : Nat) (p : Addr), (∀ b o, s2'.heap.get? b = some o → g.get? b = some o) → s2'.heap.get? p = none → g.get? p = some (PyProof.Rows.seqObj "list" (List.toArray out) c2) → PySem.W.EachIs (fun u d => ∃ v, RelV v u ∧ Dp X.K (Fz Γ H2 h1) v d) out (ds.mergeSort (PySem.W.dataLe false fun d : PyData => .tuple [.int (rowOf d), .int (placeOf d)])) →
          EP X pins σ Q (.ref p) { s2' with heap := g, toks := tk } := fun out c2 g tk p kp np hD eo => by
        rw [PySem.W.dataLe_ii (β := PyData) rowOf placeOf, ← leBy_eq] at eo
        obtain ⟨zs, v1, v2⟩ := each_split eo
        have hlen2 : zs.length ≤ sizeLine := by
          rw [v2.length, List.length_mergeSort, ← dps_len ds2]
          exact hz
        have hnone : H2 p = none := by
          cases q : H2 p with
          | none => rfl
          | some u =>
            obtain ⟨o, ho⟩ := obj_there (I2.hok p u q)
            rw [np] at ho
            cases ho
        exact ⟨.ref _, upd H2 p (.lst zs), I2.laidN (t' := tk) kp np hnone ⟨hlen2, out, c2, v1, hD⟩, rfl, w1.2 _ _ _ (px.trans px2) (each_dps v2) rm2 hnone⟩
      rcases hlt with hl | hl
      · exact PySem.W.sorted_key_data (b := false) (fun d : PyData => .tuple [.int (rowOf d), .int (placeOf d)]) hl.isList ec (PySem.W.AllAlike.of fun _ _ => by simp [PySem.W.alike, PySem.W.alikeAll]) (PySem.W.Sortable.tuples fun _ => ⟨_, _, rfl⟩) (by rw [← dps_len ds2]; exact hz) (fun d _ => by rw [key_depth]; omega)
          (PyProof.Rows.ksk_s1 _ _) (fun _ => PyProof.Rows.ksk_l1 _ _) (fun _ => PyProof.Rows.ksk_t1 _ _) turn1 fun out c2 g tk kp hn2 hD hlen eo => fin1 out c2 g tk _ kp hn2 hD eo
      · exact sortedT_key (fun d : PyData => .tuple [.int (rowOf d), .int (placeOf d)]) hl ec (PySem.W.AllAlike.of fun _ _ => by simp [PySem.W.alike, PySem.W.alikeAll]) (PySem.W.Sortable.tuples fun _ => ⟨_, _, rfl⟩) (by rw [← dps_len ds2]; exact hz) (fun d _ => by rw [key_depth]; omega)
          (PyProof.Rows.ksk_s1 _ _) (fun _ => PyProof.Rows.ksk_l1 _ _) (fun _ => PyProof.Rows.ksk_t1 _ _) turn1 fun out c2 g tk p kp np hD eo => fin1 out c2 g tk p kp np hD eo
    · exact w1.elim
  · exact w1.elim
end DL

namespace DL
open PySem PySem.Spec PyProof.Rows L2
set_option autoImplicit true

/-! ## a def by its name -/
def FnC (P : Program) (w : World) (K : PySem.W.Frag) (mg : Str → Option Value) (base : Heap) (T : List (Addr × Str)) (k : Nat) (x : Str) (ps : List Str) (W : DSp) : Prop :=
  ∃ f fd, FnG P w K mg base T k f fd ps W ∧ PySem.W.keepIn K (.ref f) = true ∧ Binds K fd ps [] ∧ mg x = some (.ref f)
theorem FnC.up {P : Program} {w : World} {K : PySem.W.Frag} {mg : Str → Option Value} {base : Heap} {T : List (Addr × Str)} {j k : Nat} {x : Str} {ps : List Str} {W : DSp} (F : FnC P w K mg base T j x ps W) (h : j ≤ k) : FnC P w K mg base T k x ps W := by
  obtain ⟨f, fd, a, b⟩ := F
  exact ⟨f, fd, a.up h, b⟩
section
variable {X : Cx} {k : Nat} {ps : List Str} {W : DSp} {E : DXS} {x : Str} {p pos : Pos} {e : Expr} {es : List Expr} {t : DTA} {T : List (Addr × Str)}
theorem FnC.monoW (F : FnC X.prog X.w X.K X.mg X.base T k x ps W) : MonoW W := by
  obtain ⟨f, fd, a, _⟩ := F
  exact a.mono
theorem de_fn (hΓ : Γ.T = T) (F : FnC X.prog X.w X.K X.mg X.base T k x ps W) (hr : Room k X.A) (hgd : X.A.guards = some []) (tk : Takes X (liftX X.K Γ E)) (ha : DA X Γ (e :: es) t) (hg : Gl X x := by rfl) (hdb : (x == ("__debug__" : Str)) = false := by decide)
    (he : starEach (e :: es) X.env = (false, eval e X.env) :: starEach es X.env := by rfl) (hpl : (backTo pos (starEach es X.env)).any (·.1) = false := by rfl) : DE X Γ (.Call (.Name x p) (e :: es) [] pos) (dCall E W t) := by
  obtain ⟨f, fd, a, b, c, d⟩ := F
  exact de_call hΓ a hr hgd hg d b c tk ha hdb he hpl
theorem de_fn0 (hΓ : Γ.T = T) (F : FnC X.prog X.w X.K X.mg X.base T k x ps W) (hr : Room k X.A) (hgd : X.A.guards = some []) (tk : Takes X (liftX X.K Γ E)) (hg : Gl X x := by rfl) (hdb : (x == ("__debug__" : Str)) = false := by decide) : DE X Γ (.Call (.Name x p) [] [] pos) (dCall E W dNil) := by
  obtain ⟨f, fd, a, b, c, d⟩ := F
  exact de_call0 hΓ a hr hgd hg d b c tk hdb
end
theorem fn_c {P : Program} {w : World} {K : PySem.W.Frag} {mg : Str → Option Value} {base : Heap} {T : List (Addr × Str)} {k : Nat} {x : Str} {ps : List Str} {W : DSp} {st : Stmt} {f : Addr} {fd : FuncData} (F : Fun K x x st f fd) (G : FnG P w K mg base T k f fd ps W) (hm : mg x = some (.ref f))
    (hb : ∀ (kV doc pm : Value) (an : Option Addr) (cdv ct : Value) (us : List Value), us.length = ps.length → bindArgs (PySem.W.fnOf x x (defArgs st) (defBody st) (defScope st) .none kV doc pm an cdv ct) ⟨us, []⟩ = pure (ps.zip us)) : FnC P w K mg base T k x ps W :=
  ⟨f, fd, G, F.kp, F.binds hb, hm⟩
theorem room1 {k : Nat} {A : Around} (r : Room k A) : A.units + 1 < cLine := hu_of r
theorem room64 {k : Nat} {A : Around} (r : Room k A) : A.units + 64 < cLine := by
  have := r.un
  omega
theorem room65 {k : Nat} {A : Around} (r : Room k A) : A.units + 65 < cLine := by
  have := r.un
  omega
end DL

namespace DL
open PySem PySem.Spec PyProof.Rows L2
set_option autoImplicit true

/-! ## the law's end -/
/-- what is tracked ahead of the call: empty tables; the script, if it is no object of the module -/
def hpTop (K : PySem.W.Frag) (ts : List Addr) (a : Addr) (o : Obj) (u : HO) : Hp := fun x => if x ∈ ts then some (.tbl #[]) else if x = a ∧ (K.lookup a).isNone = true then some (.frz o u) else none
theorem hpTop_tab {K : PySem.W.Frag} {ts : List Addr} {a x : Addr} {o : Obj} {u : HO} (m : x ∈ ts) : hpTop K ts a o u x = some (.tbl #[]) := if_pos m
theorem hpTop_cases {K : PySem.W.Frag} {ts : List Addr} {a x : Addr} {o : Obj} {u z : HO} (e : hpTop K ts a o u x = some z) : (x ∈ ts ∧ z = .tbl #[]) ∨ (x ∉ ts ∧ x = a ∧ K.lookup a = none ∧ z = .frz o u) := by
  unfold hpTop at e
  split at e
  · rename_i m
    cases e
    exact .inl ⟨m, rfl⟩
  · rename_i m
    split at e
    · rename_i q
      cases e
      exact .inr ⟨m, q.1, Option.isNone_iff_eq_none.mp q.2, rfl⟩
    · cases e
structure TopOk (K : PySem.W.Frag) (mg mb : Str → Option Value) (cs : List (Addr × Addr)) (t : Shared) (a : Addr) (vs : List Value) (ns : List Int) : Prop where
  kin : K.In t.heap
  glo : t.heap.Ns mainGlobals mg
  blt : t.heap.Ns builtinsNs mb
  bltX : ∀ y : Str, y ≠ "__name__" → mb y = bootBuiltins y
  lim : t.heap.NoLimit
  gen : t.gens = #[]
  tab : ∀ c ∈ cs, t.heap.get? c.2 = some { cls := .none, data := .fields #[] }
  tabK : ∀ c ∈ cs, K.lookup c.2 = none
  cod : ∀ c ∈ cs, PySem.W.CodeHd t.heap c.1 c.2
  mod : ∃ (m : Addr) (o : Obj), mg "__builtins__" = some (.ref m) ∧ m ≠ builtinsNs ∧ t.heap.get? m = some o ∧ o.cls = .type "module" ∧ o.dict = some builtinsNs ∧ o.data = .plain
  scr : t.heap.get? a = some { cls := .type "list", data := .seq vs.toArray }
  int : IntsAre vs ns
  len : ns.length ≤ sizeLine
section
variable {P : Program} {w : World} {K : PySem.W.Frag} {mg mb : Str → Option Value} {cs : List (Addr × Addr)} {t : Shared} {a : Addr} {vs : List Value} {ns : List Int}
abbrev topHp (K : PySem.W.Frag) (cs : List (Addr × Addr)) (a : Addr) (vs : List Value) (ns : List Int) : Hp := hpTop K (cs.map (·.2)) a { cls := .type "list", data := .seq vs.toArray } (.lst (ns.map V.int))
theorem TopOk.isTab (G : TopOk K mg mb cs t a vs ns) {x : Addr} (m : x ∈ cs.map (·.2)) : t.heap.get? x = some { cls := .none, data := .fields #[] } ∧ K.lookup x = none := by
  obtain ⟨c, hc, rfl⟩ := List.mem_map.mp m
  exact ⟨G.tab c hc, G.tabK c hc⟩
theorem TopOk.noTab (G : TopOk K mg mb cs t a vs ns) : a ∉ cs.map (·.2) := fun m => by
  have z := (G.isTab m).1
  rw [G.scr] at z
  have z' := congrArg Obj.data (Option.some.inj z)
  cases z'
/-- what is no list, no empty table, is not tracked -/
theorem TopOk.free (G : TopOk K mg mb cs t a vs ns) {x : Addr} {o : Obj} (e : t.heap.get? x = some o) (h1 : ∀ us n, o.data ≠ .seq us n) (h2 : o.data ≠ .fields #[]) : topHp K cs a vs ns x = none := by
  cases q : topHp K cs a vs ns x with
  | none => rfl
  | some u =>
    rcases hpTop_cases q with ⟨m, _⟩ | ⟨_, ea, _, _⟩
    · rw [(G.isTab m).1] at e
      cases e
      exact (h2 rfl).elim
    · rw [ea, G.scr] at e
      cases e
      exact (h1 _ _ rfl).elim
theorem TopOk.keepNs (G : TopOk K mg mb cs t a vs ns) {x : Addr} {m : Str → Option Value} (h : t.heap.Ns x m) : (hidT t.heap (topHp K cs a vs ns)).Ns x m := by
  obtain ⟨o, es, n, e, d, r⟩ := h
  refine ⟨o, es, n, hidT_get e (G.free e (fun us k z => ?_) fun z => ?_), d, r⟩
  · rw [d] at z; cases z
  · rw [d] at z; cases z
theorem TopOk.kinT (G : TopOk K mg mb cs t a vs ns) : K.In (hidT t.heap (topHp K cs a vs ns)) := fun x o e => hidT_get (G.kin x o e) (by
  cases q : topHp K cs a vs ns x with
  | none => rfl
  | some u =>
    rcases hpTop_cases q with ⟨m, _⟩ | ⟨_, ea, en, _⟩
    · rw [(G.isTab m).2] at e; cases e
    · rw [ea, en] at e; cases e)
theorem TopOk.hok (G : TopOk K mg mb cs t a vs ns) : HOk P w (topHp K cs a vs ns) t.heap := fun x u q => by
  rcases hpTop_cases q with ⟨m, e⟩ | ⟨_, ea, _, e⟩
  · subst e
    exact (G.isTab m).1
  · subst e ea
    exact ⟨G.scr, by rw [List.length_map]; exact G.len, vs, _, L2.vals_ints G.int, G.scr⟩
theorem TopOk.sq (G : TopOk K mg mb cs t a vs ns) : SqL K (topHp K cs a vs ns) a (ns.map V.int) := by
  cases q : K.lookup a with
  | none => exact .inl (.inr ⟨_, (if_neg G.noTab).trans (if_pos ⟨rfl, by rw [q]; rfl⟩)⟩)
  | some o =>
    have e := G.kin a o q
    rw [G.scr] at e
    cases e
    exact .inr ⟨_, vs.toArray, _, q, rfl, rfl, rfl, by rw [List.size_toArray, G.int.length]; exact G.len, by simpa using L2.vals_ints G.int⟩
theorem TopOk.tabB (G : TopOk K mg mb cs t a vs ns) : ∀ c ∈ cs, LamX.TabB (hidT t.heap (topHp K cs a vs ns)) mg c.1 c.2 := fun c hc => by
  have tc := G.tab c hc
  constructor
  · obtain ⟨o, us, file, tf, flags, tg, inF, text, tt, e1, r1, r2, r3, rr⟩ := G.cod c hc
    refine ⟨o, us, file, tf, flags, tg, inF, text, tt, hidT_get e1 (G.free e1 (fun vs n z => ?_) fun z => ?_), r1, r2, r3, rr⟩
    · rw [r2] at z; cases z
    · rw [r2] at z
      cases z
      simp at r3
  · obtain ⟨m, o, b1, b2, b3, b4, b5, b6⟩ := G.mod
    refine ⟨m, o, b1, b2, fun q => ?_, fun q => ?_, hidT_get b3 (G.free b3 (fun us k z => ?_) fun z => ?_), b4, b5, b6⟩
    · obtain ⟨o', es, n, e, hd, _⟩ := G.glo
      rw [q, e] at b3
      cases b3
      rw [hd] at b6
      cases b6
    · rw [q, tc] at b3
      cases b3
      cases b6
    · rw [b6] at z; cases z
    · rw [b6] at z; cases z
  · intro z
    obtain ⟨o', es, n, e, hd, _⟩ := G.glo
    rw [z, tc] at e
    cases e
    cases hd
theorem TopOk.env0 (G : TopOk K mg mb cs t a vs ns) : Env0 P w K mg (hidT t.heap (topHp K cs a vs ns)) callerA [] t (topHp K cs a vs ns) := by
  have hM : L2.Mod K mg (hidT t.heap (topHp K cs a vs ns)) := ⟨G.kinT, G.keepNs G.glo, ⟨mb, G.keepNs G.blt, G.bltX⟩, let ⟨mc, h1, h2⟩ := G.lim; ⟨mc, G.keepNs h1, h2⟩⟩
  exact ⟨rfl, hM, fun b o e => of_hidT e, Nat.le_of_eq (hidT_size _ _), trivial, fun b hb => (List.not_mem_nil hb).elim, G.hok, .of_eq G.gen⟩
/-- a def that keeps its promise lets the law through -/
theorem top_call {k : Nat} {fa : Addr} {fd : FuncData} {x : Str} {W : DSp} {T : List (Addr × Str)} (G : TopOk K mg mb cs t a vs ns) (hr : Room k callerA) (hT : ∀ p ∈ T, p.1 ∈ cs.map (·.2))
    (F : FnG P w K mg (hidT t.heap (topHp K cs a vs ns)) T k fa fd [x] W) (hb : BindsTo t fd ⟨[.ref a], []⟩ [(x, .ref a)]) (hw : W [.d (.list (ns.map PyData.int))] (fun _ => none) (fun r _ => r = .d (.bool true)) fun _ _ => False) :
    codeAny (model P w) callerA (.call (.ref fa) ⟨[.ref a], []⟩) (fun r s' => r = .ok (.ret (.bool true)) ∧ OldK t.heap s'.heap ∧ s'.os = t.os ∧ AllBare s'.gens) t := by
  have sq0 : SqL K (Fzx [] (topHp K cs a vs ns) fun _ => none) a (ns.map V.int) := by
    rcases G.sq with (z | ⟨o, z⟩) | z
    · exact .inl (.inl (Fz.of z rfl (by simp)))
    · exact .inl (.inr ⟨o, Fz.of z rfl (by simp)⟩)
    · exact .inr z
  have rm0 : RM K (G0 [] T) (topHp K cs a vs ns) (fun _ => none) := ⟨(fun _ _ z => by cases z), trivial, fun _ m => (List.not_mem_nil m).elim, fun p hp => LamX.TabS.nil (hpTop_tab (hT p hp))⟩
  have sp : liftSp K T W [.ref a] (topHp K cs a vs ns) (fun v _ => v = .bl true) (fun _ _ _ => False) := by
    refine ⟨[], [.d (.list (ns.map PyData.int))], fun _ => none, .cons (show Dp K _ _ _ from .lst sq0 (dps_ints ns)) .nil, rm0, F.mono _ _ _ _ _ _ (fun r h' e v H' _ rv _ => ?_) (fun _ _ z => z.elim) hw⟩
    subst e
    have rv' : Dp K _ v (.bool true) := rv
    cases rv'
    rfl
  refine codeAny_mono (F.run callerA [] t _ ⟨[.ref a], []⟩ [.ref a] [.ref a] _ _ hr rfl G.env0 hb (.cons rfl .nil) sp) fun r s' h => ?_
  have nox : ∀ e, ¬ L2.CX P w [] (topHp K cs a vs ns) t (fun _ _ _ => False) e s' := fun e z => by
    obtain ⟨_, _, _, _, _, _, _, _, _, _, _, _, z⟩ := z
    exact z
  cases r with
  | error e => exact (nox e h).elim
  | ok fl => cases fl with
    | next => exact False.elim h
    | brk => exact False.elim h
    | cont => exact False.elim h
    | ret u =>
      obtain ⟨v, H', os, bare, un, hok', rv, q⟩ := h
      have q' : v = .bl true := q
      subst q'
      obtain rfl : u = Value.bool true := rv
      have stay : ∀ x o, x ∉ cs.map (·.2) → t.heap.get? x = some o → s'.heap.get? x = some o := fun x o nx e => by
        cases q : topHp K cs a vs ns x with
        | none => exact un.keep x o e q (List.not_mem_nil) (by simp)
        | some u =>
          rcases hpTop_cases q with ⟨m, _⟩ | ⟨_, ea, _, eu⟩
          · exact absurd m nx
          · subst eu
            obtain ⟨e2, _⟩ := hok' x _ (un.frzs x _ _ q)
            rw [ea, G.scr] at e
            cases e
            exact e2
      have more : ∀ c ∈ cs, ∃ zs : Array Value, s'.heap.get? c.2 = some { cls := .none, data := .fields zs } := fun c hc => by
        obtain ⟨zs, z⟩ := un.tbls c.2 #[] (hpTop_tab (List.mem_map_of_mem hc))
        exact ⟨_, hok' c.2 _ z⟩
      refine ⟨rfl, ⟨fun x o e => ?_, fun x o e => ?_⟩, os, bare⟩
      · by_cases m : x ∈ cs.map (·.2)
        · obtain ⟨c, hc, rfl⟩ := List.mem_map.mp m
          obtain ⟨zs, z⟩ := more c hc
          rw [G.tab c hc] at e
          cases e
          exact .inr (.inl ⟨((G.cod c hc).tab (G.tab c hc)).isCodeTable, rfl, #[], zs, rfl, by rw [Array.empty_append]; exact z⟩)
        · exact .inl (stay x o m e)
      · by_cases m : x ∈ cs.map (·.2)
        · obtain ⟨c, hc, rfl⟩ := List.mem_map.mp m
          obtain ⟨zs, z⟩ := more c hc
          exact ⟨_, z⟩
        · exact ⟨o, stay x o m e⟩
end
end DL

namespace DL
open PySem PySem.Spec PyProof.Rows L2
set_option autoImplicit true
theorem fun_of {K : PySem.W.Frag} {x : Str} {st : Stmt} {f : Addr} {fd : FuncData} (F : FunD K x x (defArgs st) (defBody st) (defScope st) [] [] f fd) : Fun K x x st f fd := by
  obtain ⟨oc, od, dV, kV, doc, pm, an, cdv, ct, osl, rfl, lk, hcd, hD, hK⟩ := F.ex
  rcases hD with ⟨_, rfl⟩ | ⟨e, _⟩
  · exact ⟨⟨oc, od, kV, doc, pm, an, cdv, ct, osl, rfl, lk, hcd⟩, F.kp⟩
  · exact absurd rfl e
/-- a def's code object and its table, as the head tells them -/
theorem code_of {K : PySem.W.Frag} {x : Str} {st : Stmt} {fd : FuncData} (F : Fun K x x st (He.fAd K (x, none)) fd) : fd.code = .ref (He.codeOf K (x, none)) := by
  obtain ⟨oc, od, kV, doc, pm, an, cdv, ct, osl, rfl, lk, hcd⟩ := F.ex
  obtain ⟨c, e⟩ := He.codeIn_ref hcd
  rw [He.codeOf_eq (c := c) lk e]
  exact e
abbrev tabsT (K : PySem.W.Frag) (tf : List He.Defn) (nm : He.Defn → Str) : List (Addr × Str) := tf.map fun p => ((He.cT K p).2, nm p)
theorem tabOf_one {K : PySem.W.Frag} {base : Heap} {mg : Str → Option Value} {x : Str} {st : Stmt} {fd : FuncData} {q : Str} (F : Fun K x x st (He.fAd K (x, none)) fd) (h : ∀ c ∈ [He.cT K (x, none)], LamX.TabB base mg c.1 c.2) : TabOf base mg [((He.cT K (x, none)).2, q ++ "<lambda>")] fd.code q :=
  ⟨He.codeOf K (x, none), (He.cT K (x, none)).2, code_of F, h _ List.mem_cons_self, List.mem_cons_self, fun p hp _ => by rw [List.mem_singleton.mp hp]⟩
/-- THE LAW'S WALK: F tells, at the head's facts, the law's promise -/
theorem walk_g {l : PySem.W.OpenLaw} {n m k : Nat} {q : Program} {loose : List Str} {XP : (Str → Option Value) → Heap → Prop} {d : DefRec} {x : Str} {fas : List He.Fa} {fns : List He.DefD} {tf : List He.Defn} {nm : He.Defn → Str} {ex : PySem.W.Frag → Bool} {W : DSp}
    (hn : l.most = some n) (hn2 : n ≤ sizeLine) (hdf : d.params.defaults = []) (hr : Room k callerA)
    (F : ∀ (w : World) (mg : Str → Option Value) (fa : Addr) (h : Heap) (K : PySem.W.Frag), K.In h → h.Ns mainGlobals mg → mg d.name = some (.ref fa) → He.SaysX fas fns [] tf ex w h K →
      ∃ fd : FuncData, (∀ (s : Shared) (u : Value), BindsTo s fd ⟨[u], []⟩ [(x, u)]) ∧ ∀ base : Heap, K.In base → base.Ns mainGlobals mg → (∀ c ∈ tf.map (He.cT K), LamX.TabB base mg c.1 c.2) → FnG l.prog w K mg base (tabsT K tf nm) k fa fd [x] W)
    (hw : ∀ ns : List Int, ns.length ≤ n → (∀ z ∈ ns, Builtin.Int.intBits z ≤ 1048576) → W [.d (.list (ns.map PyData.int))] (fun _ => none) (fun r _ => r = .d (.bool true)) fun _ _ => False) :
    PySem.W.WalkO q loose XP (He.hookX m fas fns [] tf ex).says l.row.toRowW d [] (fun f vs => PySem.call f vs) := by
  refine Att.attach_callB hn hdf fun w s₀ t mg mb fa o pm cd doc a vs ns G Y ho hd hcd hmg hobj hints hlen hbits hg => ?_
  obtain ⟨K, KX, S⟩ := Y
  obtain ⟨fd, hb, hF⟩ := F w mg fa _ K KX G.T.g hmg S
  have tok : TopOk K mg mb (tf.map (He.cT K)) t a vs ns := ⟨KX, G.T.g, G.T.b, G.T.builtins, G.T.nolimit, hg, fun c hc => by
    obtain ⟨p, hp, rfl⟩ := List.mem_map.mp hc
    exact S.empty p hp, fun c hc => by
    obtain ⟨p, hp, rfl⟩ := List.mem_map.mp hc
    exact S.out p hp, fun c hc => by
    obtain ⟨p, hp, rfl⟩ := List.mem_map.mp hc
    exact PySem.W.codeHd_of_K KX (S.hd p hp), G.T.bmain, hobj, hints, Nat.le_trans hlen hn2⟩
  refine top_call tok hr (fun p hp => ?_) (hF _ tok.kinT (tok.keepNs G.T.g) tok.tabB) (hb _ _) (hw ns hlen hbits)
  obtain ⟨c, hc, rfl⟩ := List.mem_map.mp hp
  exact List.mem_map.mpr ⟨He.cT K c, List.mem_map_of_mem hc, rfl⟩
end DL

namespace DL
open PySem PySem.Spec PyProof.Rows L2
set_option autoImplicit true

/-! ## plain data, small data -/
def dOk : Nat → PyData → Bool
  | _, .none => true
  | _, .bool _ => true
  | _, .int _ => true
  | _, .str x => PySem.PyData.strOk x
  | n + 1, .list xs => xs.all (dOk n)
  | n + 1, .tuple xs => xs.all (dOk n)
  | 0, .list _ => false
  | 0, .tuple _ => false
  | _, .dict _ => false
theorem canLayAll_of {xs : List PyData} (h : ∀ x ∈ xs, x.canLay0 = true) : PyData.canLayAll0 xs = true := by
  induction xs with
  | nil => rfl
  | cons x xs ih =>
    unfold PyData.canLayAll0
    rw [h x List.mem_cons_self, ih fun y hy => h y (List.mem_cons_of_mem _ hy)]
    rfl
theorem depthAll_of {n : Nat} {xs : List PyData} (h : ∀ x ∈ xs, x.depth ≤ n) : PyData.depthAll xs ≤ n := by
  induction xs with
  | nil => exact Nat.zero_le _
  | cons x xs ih =>
    unfold PyData.depthAll
    exact Nat.max_le.mpr ⟨h x List.mem_cons_self, ih fun y hy => h y (List.mem_cons_of_mem _ hy)⟩
theorem dOk_ok : ∀ (n : Nat) (d : PyData), dOk n d = true → d.canLay0 = true ∧ d.depth ≤ n
  | _, .none, _ => ⟨rfl, Nat.zero_le _⟩
  | _, .bool _, _ => ⟨rfl, Nat.zero_le _⟩
  | _, .int _, _ => ⟨rfl, Nat.zero_le _⟩
  | n, .str x, h => ⟨by cases n <;> simpa [dOk, PyData.canLay0] using h, Nat.zero_le _⟩
  | n + 1, .list xs, h => by
    have z : ∀ x ∈ xs, dOk n x = true := List.all_eq_true.mp (by simpa [dOk] using h)
    exact ⟨by rw [PyData.canLay0]; exact canLayAll_of fun x hx => (dOk_ok n x (z x hx)).1, by rw [PyData.depth]; exact Nat.succ_le_succ (depthAll_of fun x hx => (dOk_ok n x (z x hx)).2)⟩
  | n + 1, .tuple xs, h => by
    have z : ∀ x ∈ xs, dOk n x = true := List.all_eq_true.mp (by simpa [dOk] using h)
    exact ⟨by rw [PyData.canLay0]; exact canLayAll_of fun x hx => (dOk_ok n x (z x hx)).1, by rw [PyData.depth]; exact Nat.succ_le_succ (depthAll_of fun x hx => (dOk_ok n x (z x hx)).2)⟩
  | 0, .list _, h => by simp [dOk] at h
  | 0, .tuple _, h => by simp [dOk] at h
  | n, .dict _, h => by cases n <;> simp [dOk] at h
theorem shaped_ok {n : Nat} {d : PyData} (hn : n ≤ 64) (h : dOk n d = true) : SeqAt.shaped d = true := by
  obtain ⟨h1, h2⟩ := dOk_ok n d h
  unfold SeqAt.shaped
  rw [h1, decide_eq_true (by omega)]
  rfl
theorem shaped_int (i : Int) : SeqAt.shaped (.int i) = true := rfl
theorem shaped_none : SeqAt.shaped .none = true := rfl
theorem shaped_bool (b : Bool) : SeqAt.shaped (.bool b) = true := rfl
theorem dOk_up : ∀ (n m : Nat) (d : PyData), n ≤ m → dOk n d = true → dOk m d = true
  | _, m, .none, _, _ => by cases m <;> rfl
  | _, m, .bool _, _, _ => by cases m <;> rfl
  | _, m, .int _, _, _ => by cases m <;> rfl
  | n, m, .str x, _, h => by cases n <;> cases m <;> simpa [dOk] using h
  | n + 1, m + 1, .list xs, hl, h => by
    have z : ∀ x ∈ xs, dOk n x = true := List.all_eq_true.mp (by simpa [dOk] using h)
    simp only [dOk]
    exact List.all_eq_true.mpr fun x hx => dOk_up n m x (by omega) (z x hx)
  | n + 1, m + 1, .tuple xs, hl, h => by
    have z : ∀ x ∈ xs, dOk n x = true := List.all_eq_true.mp (by simpa [dOk] using h)
    simp only [dOk]
    exact List.all_eq_true.mpr fun x hx => dOk_up n m x (by omega) (z x hx)
  | n + 1, 0, .list _, hl, _ => by omega
  | n + 1, 0, .tuple _, hl, _ => by omega
  | 0, _, .list _, _, h => by simp [dOk] at h
  | 0, _, .tuple _, _, h => by simp [dOk] at h
  | n, _, .dict _, _, h => by cases n <;> simp [dOk] at h
/-- data whose text is at most 26 signs a thing, and how many things there are -/
def sOk : Nat → PyData → Bool
  | _, .none => true
  | _, .bool _ => true
  | _, .int i => decide (i.natAbs < 10 ^ 20)
  | _, .str x => PySem.PyData.strOk x && decide ((reprText x).length ≤ 24)
  | n + 1, .list xs => xs.all (sOk n)
  | n + 1, .tuple xs => xs.all (sOk n)
  | 0, .list _ => false
  | 0, .tuple _ => false
  | _, .dict _ => false
def nodes : Nat → PyData → Nat
  | n + 1, .list xs => 1 + (xs.map (nodes n)).sum
  | n + 1, .tuple xs => 1 + (xs.map (nodes n)).sum
  | _, _ => 1
theorem sOk_dOk : ∀ (n : Nat) (d : PyData), sOk n d = true → dOk n d = true
  | n, .none, _ => by cases n <;> rfl
  | n, .bool _, _ => by cases n <;> rfl
  | n, .int _, _ => by cases n <;> rfl
  | n, .str x, h => by cases n <;> simp [sOk] at h <;> simpa [dOk] using h.1
  | n + 1, .list xs, h => by
    have z : ∀ x ∈ xs, sOk n x = true := List.all_eq_true.mp (by simpa [sOk] using h)
    simp only [dOk]
    exact List.all_eq_true.mpr fun x hx => sOk_dOk n x (z x hx)
  | n + 1, .tuple xs, h => by
    have z : ∀ x ∈ xs, sOk n x = true := List.all_eq_true.mp (by simpa [sOk] using h)
    simp only [dOk]
    exact List.all_eq_true.mpr fun x hx => sOk_dOk n x (z x hx)
  | 0, .list _, h => by simp [sOk] at h
  | 0, .tuple _, h => by simp [sOk] at h
  | n, .dict _, h => by cases n <;> simp [sOk] at h
theorem shownAll_eq : ∀ xs : List PyData, PyData.shownAll xs = xs.map PyData.shown
  | [] => rfl
  | x :: xs => by
    rw [PyData.shownAll, shownAll_eq xs]
    rfl
theorem sum_le {f g : PyData → Nat} : ∀ {xs : List PyData}, (∀ x ∈ xs, f x + 2 ≤ 26 * g x) → (xs.map f).sum + 2 * xs.length ≤ 26 * (xs.map g).sum
  | [], _ => by simp
  | x :: xs, h => by
    have a := h x List.mem_cons_self
    have b := sum_le (xs := xs) fun y hy => h y (List.mem_cons_of_mem _ hy)
    simp only [List.map_cons, List.sum_cons, List.length_cons]
    omega
theorem show_le : ∀ (n : Nat) (d : PyData), sOk n d = true → d.shown.length + 2 ≤ 26 * nodes n d ∧ d.showable = true
  | n, .none, _ => ⟨by cases n <;> (simp only [nodes]; decide), by simp only [PyData.showable]⟩
  | n, .bool b, _ => ⟨by cases n <;> cases b <;> (simp only [nodes]; decide), by simp only [PyData.showable]⟩
  | n, .int i, h => by
    have z : i.natAbs < 10 ^ 20 := by cases n <;> simpa [sOk] using h
    have e : (Str.ofString (toString i)).length ≤ 21 := by
      rw [PySem.ofString_length]
      exact int_text_length_le10 (k := 20) (by decide) z
    refine ⟨?_, ?_⟩
    · have e2 : (PyData.int i).shown = Str.ofString (toString i) := by simp only [PyData.shown] <;> rfl
      rw [e2]
      cases n <;> (simp only [nodes]; omega)
    · simp only [PyData.showable]
      refine decide_eq_true ?_
      by_cases q : i.natAbs = 0
      · rw [q]; decide
      · exact Nat.lt_trans ((Nat.log2_lt (k := 67) q).mpr (Nat.lt_trans z (by decide))) (by decide)
  | n, .str x, h => by
    have z : (reprText x).length ≤ 24 := by cases n <;> (simp [sOk] at h; exact h.2)
    refine ⟨?_, by simp only [PyData.showable]⟩
    have e2 : (PyData.str x).shown = reprText x := by simp only [PyData.shown]
    rw [e2]
    cases n <;> (simp only [nodes]; omega)
  | n + 1, .list xs, h => by
    have z : ∀ x ∈ xs, sOk n x = true := List.all_eq_true.mp (by simpa [sOk] using h)
    have a := listText_len_le (PyData.shownAll xs)
    have b := sum_le (f := fun x => x.shown.length) (g := nodes n) fun x hx => (show_le n x (z x hx)).1
    rw [shownAll_eq, List.map_map, List.length_map] at a
    refine ⟨?_, ?_⟩
    · have e2 : (PyData.list xs).shown = listText (xs.map PyData.shown) := by simp only [PyData.shown, shownAll_eq]
      rw [e2]
      simp only [nodes]
      have c : (xs.map ((fun x => x.length) ∘ PyData.shown)).sum = (xs.map fun x => x.shown.length).sum := rfl
      omega
    · simp only [PyData.showable]
      clear a b h
      induction xs with
      | nil => rfl
      | cons x xs ih =>
        simp only [PyData.showableAll, Bool.and_eq_true]
        exact ⟨(show_le n x (z x List.mem_cons_self)).2, ih fun y hy => z y (List.mem_cons_of_mem _ hy)⟩
  | n + 1, .tuple xs, h => by
    have z : ∀ x ∈ xs, sOk n x = true := List.all_eq_true.mp (by simpa [sOk] using h)
    have a := tupleText_len_le (PyData.shownAll xs)
    have b := sum_le (f := fun x => x.shown.length) (g := nodes n) fun x hx => (show_le n x (z x hx)).1
    rw [shownAll_eq, List.map_map, List.length_map] at a
    refine ⟨?_, ?_⟩
    · have e2 : (PyData.tuple xs).shown = tupleText (xs.map PyData.shown) := by simp only [PyData.shown, shownAll_eq]
      rw [e2]
      simp only [nodes]
      have c : (xs.map ((fun x => x.length) ∘ PyData.shown)).sum = (xs.map fun x => x.shown.length).sum := rfl
      omega
    · simp only [PyData.showable]
      clear a b h
      induction xs with
      | nil => rfl
      | cons x xs ih =>
        simp only [PyData.showableAll, Bool.and_eq_true]
        exact ⟨(show_le n x (z x List.mem_cons_self)).2, ih fun y hy => z y (List.mem_cons_of_mem _ hy)⟩
  | 0, .list _, h => by simp [sOk] at h
  | 0, .tuple _, h => by simp [sOk] at h
  | n, .dict _, h => by cases n <;> simp [sOk] at h
theorem reprOk_of {n : Nat} {d : PyData} (hn : n ≤ 32) (h : sOk n d = true) (hz : 26 * nodes n d ≤ 16777216) : reprOk d := by
  obtain ⟨a, b⟩ := show_le n d h
  obtain ⟨c, e⟩ := dOk_ok n d (sOk_dOk n d h)
  exact ⟨b, PyData.hasDict_of_canLay d c, by omega, by rw [sizeLine_eq]; omega⟩
theorem nodes_le {n c : Nat} {xs : List PyData} (h : ∀ x ∈ xs, nodes n x ≤ c) : (xs.map (nodes n)).sum ≤ c * xs.length := by
  induction xs with
  | nil => simp
  | cons x xs ih =>
    simp only [List.map_cons, List.sum_cons, List.length_cons]
    have a := h x List.mem_cons_self
    have b := ih fun y hy => h y (List.mem_cons_of_mem _ hy)
    rw [Nat.mul_succ]
    omega
end DL

namespace DL
open PySem PySem.Spec PyProof.Rows L2
set_option autoImplicit true

/-! ## heaps of one's own lists -/
theorem put_same {h : MH} {a : Addr} {o : MO} : mput h a o a = some o := if_pos rfl
theorem put_other {h : MH} {a b : Addr} {o : MO} (n : b ≠ a) : mput h a o b = h b := if_neg n
theorem put_put {h : MH} {a : Addr} {o u : MO} : mput (mput h a o) a u = mput h a u := by
  funext b
  unfold mput
  split <;> rfl
theorem put_swap {h : MH} {a b : Addr} {o u : MO} (n : a ≠ b) : mput (mput h a o) b u = mput (mput h b u) a o := by
  funext c
  unfold mput
  by_cases e : c = b
  · subst e
    rw [if_pos rfl, if_neg (Ne.symm n), if_pos rfl]
  · rw [if_neg e, if_neg e]
theorem put_id {h : MH} {a : Addr} {o : MO} (e : h a = some o) : mput h a o = h := by
  funext b
  unfold mput
  split
  · rename_i q
    rw [q, e]
  · rfl
theorem restr_self {h : MH} {r : SV} : restr h h r = h := by
  funext b
  unfold restr
  cases q : h b with
  | none => simp
  | some o => simp
theorem restr_put {h h' : MH} {a : Addr} {o : MO} {r : SV} (e : (h a).isSome = true) (hr : restr h h' r = h) : restr h (mput h' a o) r = mput h a o := by
  funext b
  have z := congrFun hr b
  unfold restr at z ⊢
  unfold mput
  by_cases q : b = a
  · subst q
    simp [e]
  · simp only [if_neg q]
    exact z
/-- what was made ahead of a call's end, and is not handed back, is no more -/
theorem restr_drop {h h' : MH} {p : Addr} {o : MO} {d : PyData} (n : h p = none) : restr h (mput h' p o) (.d d) = restr h h' (.d d) := by
  funext b
  unfold restr mput
  by_cases q : b = p
  · subst q
    simp [n, SV.isOwn]
  · simp only [if_neg q]
theorem restr_mdrop {h h' : MH} {p : Addr} {d : PyData} (n : h p = none) : restr h (mdrop h' p) (.d d) = restr h h' (.d d) := by
  funext b
  unfold restr mdrop
  by_cases q : b = p
  · subst q
    simp [n, SV.isOwn]
  · simp only [if_neg q]
theorem restr_putd {h h' : MH} {a : Addr} {o : MO} {d : PyData} (e : (h a).isSome = true) : restr h (mput h' a o) (.d d) = mput (restr h h' (.d d)) a o := by
  funext b
  unfold restr mput
  by_cases q : b = a
  · subst q
    simp [e]
  · simp only [if_neg q]
theorem restr_new {h : MH} {p : Addr} {o : MO} (n : h p = none) : restr h (mput h p o) (.own p) = mput h p o := by
  funext b
  unfold restr mput
  by_cases q : b = p
  · subst q
    simp [SV.isOwn]
  · simp only [if_neg q]
    cases z : h b with
    | none => simp
    | some o => simp
theorem mdrop_put {h : MH} {p : Addr} {o : MO} (n : h p = none) : mdrop (mput h p o) p = h := by
  funext b
  unfold mdrop mput
  by_cases q : b = p
  · subst q; simp [n]
  · simp only [if_neg q]

/-! ## steps of readings -/
section
variable {σ : DSt} {h h' : MH} {Q : DK} {QB : Bool → MH → Prop} {QL : List PyData → MH → Prop} {QA : List SV → MH → Prop} {D : DEnds} {x y z : SV} {i j n m : Int} {d e : PyData} {ta tb tc : DTE} {t u : DTT} {r : DR2} {ts us : DTS} {tA : DTA} {tF : DTF} {xs ys ds es : List PyData} {a p : Addr} {b : Bool}
theorem e_var {i : Nat} (e : slot σ i = some x) (k : Q x h) : dVar i σ h Q := by unfold dVar; rw [e]; exact k
theorem e_c (k : Q (.d d) h) : dC d σ h Q := k
theorem e_op (k : ta σ h fun x h1 => tb σ h1 fun y h2 => r x y h2 Q) : dOp r ta tb σ h Q := k
def testK (QB : Bool → MH → Prop) : DK := fun x h1 => match x with
  | .d (.bool k) => QB k h1
  | _ => False
theorem e_test (k : ta σ h (testK QB)) : dTest ta σ h QB := k
theorem k_test (k : QB b h) : testK QB (.d (.bool b)) h := k
def andK (u : DTT) (σ : DSt) (QB : Bool → MH → Prop) : Bool → MH → Prop := fun c h1 => if c = true then u σ h1 QB else QB false h1
theorem e_and (k : t σ h (andK u σ QB)) : dAnd t u σ h QB := k
theorem k_and (k1 : b = true → u σ h QB) (k2 : b = false → QB false h) : andK u σ QB b h := by
  cases b with
  | true => exact k1 rfl
  | false => exact k2 rfl
def orK (u : DTT) (σ : DSt) (QB : Bool → MH → Prop) : Bool → MH → Prop := fun c h1 => if c = true then QB true h1 else u σ h1 QB
theorem e_or (k : t σ h (orK u σ QB)) : dOr t u σ h QB := k
theorem k_or (k1 : b = true → QB true h) (k2 : b = false → u σ h QB) : orK u σ QB b h := by
  cases b with
  | true => exact k1 rfl
  | false => exact k2 rfl
def notK (QB : Bool → MH → Prop) : Bool → MH → Prop := fun c h1 => QB (!c) h1
theorem e_not (k : t σ h (notK QB)) : dNot t σ h QB := k
theorem k_not (k : QB (!b) h) : notK QB b h := k
def andVK (tb : DTE) (σ : DSt) (Q : DK) : DK := fun x h1 => match x with
  | .d (.bool c) => if c = true then tb σ h1 Q else Q (.d (.bool false)) h1
  | _ => False
theorem e_andV (k : ta σ h (andVK tb σ Q)) : dAndV ta tb σ h Q := k
theorem k_andV (k1 : b = true → tb σ h Q) (k2 : b = false → Q (.d (.bool false)) h) : andVK tb σ Q (.d (.bool b)) h := by
  cases b with
  | true => exact k1 rfl
  | false => exact k2 rfl
def orVK (tb : DTE) (σ : DSt) (Q : DK) : DK := fun x h1 => match x with
  | .d (.bool c) => if c = true then Q (.d (.bool true)) h1 else tb σ h1 Q
  | _ => False
theorem e_orV (k : ta σ h (orVK tb σ Q)) : dOrV ta tb σ h Q := k
theorem k_orV (k1 : b = true → Q (.d (.bool true)) h) (k2 : b = false → tb σ h Q) : orVK tb σ Q (.d (.bool b)) h := by
  cases b with
  | true => exact k1 rfl
  | false => exact k2 rfl
def notVK (Q : DK) : DK := fun x h1 => match x with
  | .d (.bool c) => Q (.d (.bool (!c))) h1
  | _ => False
theorem e_notV (k : ta σ h (notVK Q)) : dNotV ta σ h Q := k
theorem k_notV (k : Q (.d (.bool (!b))) h) : notVK Q (.d (.bool b)) h := k
def ifEK (ta tb : DTE) (σ : DSt) (Q : DK) : Bool → MH → Prop := fun c h1 => if c = true then ta σ h1 Q else tb σ h1 Q
theorem e_ifE (k : t σ h (ifEK ta tb σ Q)) : dIf t ta tb σ h Q := k
theorem k_ifE (k1 : b = true → ta σ h Q) (k2 : b = false → tb σ h Q) : ifEK ta tb σ Q b h := by
  cases b with
  | true => exact k1 rfl
  | false => exact k2 rfl
theorem e_nil (k : QA [] h) : dNil σ h QA := k
theorem e_cons (k : ta σ h fun x h1 => tA σ h1 fun xs h2 => QA (x :: xs) h2) : dCons ta tA σ h QA := k
def tupK (Q : DK) : List SV → MH → Prop := fun xs h1 => match fzs xs h1 with
  | some (ds, h2) => ds.length ≤ sizeLine ∧ Q (.d (.tuple ds)) h2
  | none => False
theorem e_tup (k : tA σ h (tupK Q)) : dTup tA σ h Q := k
theorem k_tup {xs : List SV} (e : fzs xs h = some (ds, h')) (c : Nat.ble ds.length 16777216 = true) (k : Q (.d (.tuple ds)) h') : tupK Q xs h := by unfold tupK; rw [e]; exact ⟨by rw [sizeLine_eq]; exact Nat.le_of_ble_eq_true c, k⟩
def lstK (QL : List PyData → MH → Prop) : List SV → MH → Prop := fun xs h1 => match fzs xs h1 with
  | some (ds, h2) => ds.length ≤ sizeLine ∧ QL ds h2
  | none => False
theorem e_lst (k : tA σ h (lstK QL)) : fLst tA σ h QL := k
theorem k_lst {xs : List SV} (e : fzs xs h = some (ds, h')) (c : Nat.ble ds.length 16777216 = true) (k : QL ds h') : lstK QL xs h := by unfold lstK; rw [e]; exact ⟨by rw [sizeLine_eq]; exact Nat.le_of_ble_eq_true c, k⟩
theorem e_L (k : tF σ h fun ds h' => Q (.d (.list ds)) h') : dL tF σ h Q := k
theorem e_Own (k : tF σ h fun ds h1 => ∀ p, h1 p = none → Q (.own p) (mput h1 p (.lst ds))) : dOwn tF σ h Q := k
theorem e_B {r : DRA} (k : tA σ h fun xs h1 => r xs h1 Q) : dB r tA σ h Q := k
theorem e_fB {r : DRF} (k : tA σ h fun xs h1 => r xs h1 QL) : fB r tA σ h QL := k
theorem e_yes (k : QB true h) : dYes σ h QB := k
theorem e_call {E : DXS} {W : DSp} (k : tA σ h fun xs h1 => W xs h1 Q fun x h2 => E x σ h2) : dCall E W tA σ h Q := k
def mlK (r : DRM) (tA : DTA) (σ : DSt) (Q : DK) : DK := fun x h1 => match asL h1 x with
  | some _ => tA σ h1 fun xs h2 => r x xs h2 Q
  | none => False
theorem e_ML {r : DRM} (k : ta σ h (mlK r tA σ Q)) : dML r ta tA σ h Q := k
theorem k_ML {r : DRM} (e : asL h x = some ds) (k : tA σ h fun xs h2 => r x xs h2 Q) : mlK r tA σ Q x h := by unfold mlK; rw [e]; exact k
/-! statements -/
theorem e_seq (k : ts { D with nx := fun σ' h' => us D σ' h' } σ h) : dSeq ts us D σ h := k
theorem e_next (k : D.nx σ h) : dNext D σ h := k
theorem e_break (k : D.bk σ h) : dBreak D σ h := k
theorem e_cont (k : D.ct σ h) : dCont D σ h := k
theorem e_drop (k : ta σ h fun _ h1 => D.nx σ h1) : dDrop ta D σ h := k
theorem e_ret (k : ta σ h D.rt) : dRet ta D σ h := k
theorem e_retN (k : D.rt (.d .none) h) : dRetN D σ h := k
def retfK (D : DEnds) : DK := fun x h1 => match fz1 x h1 with
  | some (d, h2) => D.rt (.d d) h2
  | none => False
theorem e_retF (k : ta σ h (retfK D)) : dRetF ta D σ h := k
theorem k_retFd (k : D.rt (.d d) h) : retfK D (.d d) h := k
theorem k_retF (e : h a = some (.lst xs)) (k : D.rt (.d (.list xs)) (mdrop h a)) : retfK D (.own a) h := by unfold retfK fz1; simp only [e]; exact k
def ifK (ts us : DTS) (D : DEnds) (σ : DSt) : Bool → MH → Prop := fun c h1 => if c = true then ts D σ h1 else us D σ h1
theorem e_if (k : t σ h (ifK ts us D σ)) : dIfS t ts us D σ h := k
theorem k_if (k1 : b = true → ts D σ h) (k2 : b = false → us D σ h) : ifK ts us D σ b h := by
  cases b with
  | true => exact k1 rfl
  | false => exact k2 rfl
theorem k_ifT (k1 : ts D σ h) : ifK ts us D σ true h := k1
theorem k_ifF (k1 : us D σ h) : ifK ts us D σ false h := k1
def asgK (g : Tg) (D : DEnds) (σ : DSt) : DK := fun x h1 => match bindT g x σ with
  | some σ' => D.nx σ' h1
  | none => False
theorem e_asg {g : Tg} (k : ta σ h (asgK g D σ)) : dAsg ta g D σ h := k
theorem k_nm {i : Nat} (k : D.nx (σ.set i (some x)) h) : asgK (.nm i) D σ x h := k
theorem k_tg {is : List Nat} (e : ds.length = is.length) (k : D.nx (setAll is ds σ) h) : asgK (.tup is) D σ (.d (.tuple ds)) h := by
  show (match (if ds.length = is.length then some (setAll is ds σ) else none) with
    | some σ' => D.nx σ' h
    | none => False)
  rw [if_pos e]
  exact k
def parK (i j : Nat) (D : DEnds) (σ : DSt) : List SV → MH → Prop := fun xs h1 => match xs with
  | [x, y] => D.nx ((σ.set i (some x)).set j (some y)) h1
  | _ => False
theorem e_par {i j : Nat} (k : tA σ h (parK i j D σ)) : dPar i j tA D σ h := k
theorem k_par {i j : Nat} (k : D.nx ((σ.set i (some x)).set j (some y)) h) : parK i j D σ [x, y] h := k
def par3K (i j l : Nat) (D : DEnds) (σ : DSt) : List SV → MH → Prop := fun xs h1 => match xs with
  | [x, y, z] => D.nx (((σ.set i (some x)).set j (some y)).set l (some z)) h1
  | _ => False
theorem e_par3 {i j l : Nat} (k : tA σ h (par3K i j l D σ)) : dPar3 i j l tA D σ h := k
theorem k_par3 {i j l : Nat} (k : D.nx (((σ.set i (some x)).set j (some y)).set l (some z)) h) : par3K i j l D σ [x, y, z] h := k
def setK (D : DEnds) (σ : DSt) (y x i : SV) (h3 : MH) : Prop := match ownO h3 x with
  | some p => match setO p.2 i y with
    | some o => D.nx σ (mput h3 p.1 o)
    | none => False
  | none => match fz1 y h3 with
    | some (d, h4) => match ownL h4 x, asInt i with
      | some (a, ds), some k => match ixN ds.length k with
        | some j => D.nx σ (mput h4 a (.lst (ds.set j d)))
        | none => False
      | _, _ => False
    | none => False
theorem e_setIx (k : ta σ h fun y h1 => tb σ h1 fun x h2 => tc σ h2 fun i h3 => setK D σ y x i h3) : dSetIx ta tb tc D σ h := k
theorem k_set {j : Nat} (e : h a = some (.lst ds)) (e2 : ixN ds.length n = some j) (k : D.nx σ (mput h a (.lst (ds.set j d)))) : setK D σ (.d d) (.own a) (.d (.int n)) h := by
  have q0 : ownO h (.own a) = none := by simp only [ownO, e]
  unfold setK
  rw [q0]
  show (match ownL h (.own a), some n with
    | some (a, ds), some k => (match ixN ds.length k with
      | some j => D.nx σ (mput h a (.lst (ds.set j d)))
      | none => False)
    | _, _ => False)
  have q : ownL h (.own a) = some (a, ds) := by simp only [ownL, e]
  rw [q]
  show (match ixN ds.length n with
      | some j => D.nx σ (mput h a (.lst (ds.set j d)))
      | none => False)
  rw [e2]
  exact k
/-- a dict of one's own is written -/
theorem k_setD {ps : List (Key × SV)} {kk : Key} (e : h a = some (.dct ps)) (e2 : asKey y = some kk) (hl : ps.length < 16777216) (k : D.nx σ (mput h a (.dct (putS ps kk x)))) : setK D σ x (.own a) y h := by
  have q0 : ownO h (.own a) = some (a, .dct ps) := by simp only [ownO, e]
  have q1 : setO (.dct ps) y x = some (.dct (putS ps kk x)) := by
    unfold setO
    simp only [e2]
    rw [if_pos (by simpa using hl)]
  unfold setK
  rw [q0]
  simp only [q1]
  exact k
theorem r_ixD {ps : List (Key × SV)} {kk : Key} {z : SV} (e : h a = some (.dct ps)) (e2 : asKey y = some kk) (e3 : valS ps kk = some z) (k : Q z h) : rdIx (.own a) y h Q := by
  have q0 : ownO h (.own a) = some (a, .dct ps) := by simp only [ownO, e]
  unfold rdIx
  rw [q0]
  simp only [ixO, e2, e3]
  exact k
theorem r_ixP {xs : List SV} {z : SV} (e : h a = some (.tpl xs)) (e3 : atI xs n = some z) (k : Q z h) : rdIx (.own a) (.d (.int n)) h Q := by
  have q0 : ownO h (.own a) = some (a, .tpl xs) := by simp only [ownO, e]
  unfold rdIx
  rw [q0]
  simp only [ixO, asInt, e3]
  exact k
theorem r_ixS {xs : List SV} {z : SV} (e : h a = some (.seq xs)) (e3 : atI xs n = some z) (k : Q z h) : rdIx (.own a) (.d (.int n)) h Q := by
  have q0 : ownO h (.own a) = some (a, .seq xs) := by simp only [ownO, e]
  unfold rdIx
  rw [q0]
  simp only [ixO, asInt, e3]
  exact k
theorem r_inDc {ps : List (Key × SV)} {kk : Key} (e : h a = some (.dct ps)) (e2 : asKey x = some kk) (k : Q (.d (.bool (valS ps kk).isSome)) h) : rdInL x (.own a) h Q := by
  have q0 : ownO h (.own a) = some (a, .dct ps) := by simp only [ownO, e]
  unfold rdInL
  rw [q0]
  simp only [inO, e2]
  exact k
theorem r_notInDc {ps : List (Key × SV)} {kk : Key} (e : h a = some (.dct ps)) (e2 : asKey x = some kk) (k : Q (.d (.bool (!(valS ps kk).isSome))) h) : rdNotInL x (.own a) h Q := by
  have q0 : ownO h (.own a) = some (a, .dct ps) := by simp only [ownO, e]
  unfold rdNotInL
  rw [q0]
  simp only [inO, e2]
  exact k
theorem e_for {w : DTI} {g : Tg} (k : w σ h fun ds h1 => forL g ts D ds σ h1) : dFor w g ts D σ h := k
theorem e_rt {h0 : MH} (k : Q x (restr h0 h x)) : (dEnd h0 Q).rt x h := ⟨_, restr_sub, k⟩
theorem e_rtA {h0 : MH} (k : Q x h) : (dEnd h0 Q).rt x h := ⟨h, fun _ _ q => q, k⟩
theorem e_nx {h0 : MH} (k : Q (.d .none) (restr h0 h (.d .none))) : (dEnd h0 Q).nx σ h := ⟨_, restr_sub, k⟩
theorem e_nxA {h0 : MH} (k : Q (.d .none) h) : (dEnd h0 Q).nx σ h := ⟨h, fun _ _ q => q, k⟩
/-! operators -/
theorem r_add (k : Q (.d (.int (i + j))) h) : rdAdd (.d (.int i)) (.d (.int j)) h Q := k
theorem r_addL (c : xs.length + ys.length ≤ 16777216) (k : Q (.d (.list (xs ++ ys))) h) : rdAdd (.d (.list xs)) (.d (.list ys)) h Q := ⟨by rw [sizeLine_eq]; exact c, k⟩
theorem r_sub (k : Q (.d (.int (i - j))) h) : rdSub (.d (.int i)) (.d (.int j)) h Q := k
theorem r_mul (c : CMul i j) (k : Q (.d (.int (i * j))) h) : rdMul (.d (.int i)) (.d (.int j)) h Q := ⟨c, k⟩
theorem r_div (c : CDivN i j) (k : Q (.d (.int (i.fdiv j))) h) : rdDiv (.d (.int i)) (.d (.int j)) h Q := ⟨c, k⟩
theorem r_mod (c : j ≠ 0) (k : Q (.d (.int (i.fmod j))) h) : rdMod (.d (.int i)) (.d (.int j)) h Q := ⟨c, k⟩
theorem r_pow (c : CPow i j) (k : Q (.d (.int (i ^ j.toNat))) h) : rdPow (.d (.int i)) (.d (.int j)) h Q := ⟨c, k⟩
theorem r_lt (k : Q (.d (.bool (decide (i < j)))) h) : rdLt (.d (.int i)) (.d (.int j)) h Q := k
theorem r_le (k : Q (.d (.bool (decide (i ≤ j)))) h) : rdLe (.d (.int i)) (.d (.int j)) h Q := k
theorem r_gt (k : Q (.d (.bool (decide (j < i)))) h) : rdGt (.d (.int i)) (.d (.int j)) h Q := k
theorem r_cmpT {g : Int → Int → Bool} {z : Nat → Nat → Bool} {ns ms : List Int} (e1 : intsD xs = some ns) (e2 : intsD ys = some ms) (k : Q (.d (.bool (cmpT g (z ns.length ms.length) ns ms))) h) : rdCmp g z (.d (.tuple xs)) (.d (.tuple ys)) h Q := by
  unfold rdCmp
  simp only [asInt, tupI, e1, e2]
  exact k
theorem r_ge (k : Q (.d (.bool (decide (j ≤ i)))) h) : rdGe (.d (.int i)) (.d (.int j)) h Q := k
theorem r_eq (e1 : asD h x = some d) (e2 : asD h y = some e) (s1 : SeqAt.shaped d = true) (s2 : SeqAt.shaped e = true) (k : Q (.d (.bool (PyData.eqv d e))) h) : rdEq x y h Q := by unfold rdEq; rw [e1, e2]; exact ⟨.inl ⟨s1, s2⟩, k⟩
theorem r_ne (e1 : asD h x = some d) (e2 : asD h y = some e) (s1 : SeqAt.shaped d = true) (s2 : SeqAt.shaped e = true) (k : Q (.d (.bool (!PyData.eqv d e))) h) : rdNe x y h Q := by unfold rdNe; rw [e1, e2]; exact ⟨.inl ⟨s1, s2⟩, k⟩
theorem r_eqI (k : Q (.d (.bool (decide (i = j)))) h) : rdEq (.d (.int i)) (.d (.int j)) h Q := ⟨.inl ⟨rfl, rfl⟩, by
  have z : PyData.eqv (.int i) (.int j) = decide (i = j) := by simp only [PyData.eqv]; by_cases q : i = j <;> simp [q]
  rw [z]; exact k⟩
theorem r_neI (k : Q (.d (.bool (!decide (i = j)))) h) : rdNe (.d (.int i)) (.d (.int j)) h Q := ⟨.inl ⟨rfl, rfl⟩, by
  have z : PyData.eqv (.int i) (.int j) = decide (i = j) := by simp only [PyData.eqv]; by_cases q : i = j <;> simp [q]
  rw [z]; exact k⟩
theorem r_eqS {s1 s2 : Str} (k : Q (.d (.bool (s1 == s2))) h) : rdEq (.d (.str s1)) (.d (.str s2)) h Q := ⟨.inr rfl, by
  have z : PyData.eqv (.str s1) (.str s2) = (s1 == s2) := by simp only [PyData.eqv]
  rw [z]; exact k⟩
theorem r_neS {s1 s2 : Str} (k : Q (.d (.bool (!(s1 == s2)))) h) : rdNe (.d (.str s1)) (.d (.str s2)) h Q := ⟨.inr rfl, by
  have z : PyData.eqv (.str s1) (.str s2) = (s1 == s2) := by simp only [PyData.eqv]
  rw [z]; exact k⟩
theorem r_isN (k : Q (.d (.bool (isNone x))) h) : rdIsN x (.d .none) h Q := ⟨rfl, k⟩
theorem r_notN (k : Q (.d (.bool (!isNone x))) h) : rdNotN x (.d .none) h Q := ⟨rfl, k⟩
theorem r_ix (e0 : asStr x = none) (e1 : asQ h x = some xs) (e2 : atI xs n = some d) (k : Q (.d d) h) : rdIx x (.d (.int n)) h Q := by
  unfold rdIx
  rw [ownO_asQ e1]
  show (match asStr x with
    | some z => (match atI z.cps.toList n with
      | some c => z.length ≤ sizeLine ∧ Q (.d (.str ⟨#[c]⟩)) h
      | none => False)
    | none => (match asQ h x with
      | some xs => (match atI xs n with
        | some d => Q (.d d) h
        | none => False)
      | none => False))
  rw [e0]
  show (match asQ h x with
      | some xs => (match atI xs n with
        | some d => Q (.d d) h
        | none => False)
      | none => False)
  rw [e1]
  show (match atI xs n with
        | some d => Q (.d d) h
        | none => False)
  rw [e2]
  exact k
theorem r_ixT (e2 : atI xs n = some d) (k : Q (.d d) h) : rdIx (.d (.tuple xs)) (.d (.int n)) h Q := r_ix rfl rfl e2 k
theorem r_ixL (e2 : atI xs n = some d) (k : Q (.d d) h) : rdIx (.d (.list xs)) (.d (.int n)) h Q := r_ix rfl rfl e2 k
theorem asQ_own (e : h a = some (.lst xs)) : asQ h (.own a) = some xs := by unfold asQ asL; simp only [e]
theorem asL_own (e : h a = some (.lst xs)) : asL h (.own a) = some xs := by unfold asL; simp only [e]
theorem ownL_own (e : h a = some (.lst xs)) : ownL h (.own a) = some (a, xs) := by unfold ownL; simp only [e]
theorem r_ixO (e1 : h a = some (.lst xs)) (e2 : atI xs n = some d) (k : Q (.d d) h) : rdIx (.own a) (.d (.int n)) h Q := r_ix rfl (asQ_own e1) e2 k
theorem r_inL (e1 : asD h x = some d) (e2 : asL h y = some ds) (s1 : SeqAt.shaped d = true) (s2 : SeqAt.shaped (.list ds) = true) (k : Q (.d (.bool (ds.any fun z => PyData.eqv z d))) h) : rdInL x y h Q := by unfold rdInL; rw [ownO_asL e2]; simp only []; rw [e1, e2]; exact ⟨s1, s2, k⟩
theorem r_notInL (e1 : asD h x = some d) (e2 : asL h y = some ds) (s1 : SeqAt.shaped d = true) (s2 : SeqAt.shaped (.list ds) = true) (k : Q (.d (.bool (!ds.any fun z => PyData.eqv z d))) h) : rdNotInL x y h Q := by unfold rdNotInL; rw [ownO_asL e2]; simp only []; rw [e1, e2]; exact ⟨s1, s2, k⟩
theorem r_neg (k : ta σ h fun x h1 => match asInt x with
  | some i => Q (.d (.int (-i))) h1
  | none => False) : dNeg ta σ h Q := k
theorem e_negC (k : Q (.d (.int (-i))) h) : dNeg (dC (.int i)) σ h Q := k
/-! built-in functions -/
theorem b_lenDc {ps : List (Key × SV)} (e : h a = some (.dct ps)) (k : Q (.d (.int (ps.length : Nat))) h) : rdLen [.own a] h Q := by
  unfold rdLen
  simp only [ownO, e, lenO]
  exact k
theorem b_lenS {ps : List SV} (e : h a = some (.seq ps)) (k : Q (.d (.int (ps.length : Nat))) h) : rdLen [.own a] h Q := by
  unfold rdLen
  simp only [ownO, e, lenO]
  exact k
theorem b_len (e1 : asStr x = none) (e2 : asQ h x = some xs) (k : Q (.d (.int (xs.length : Nat))) h) : rdLen [x] h Q := by
  have q := ownO_asQ e2
  unfold rdLen
  simp only [q, e1, e2]
  exact k
theorem b_lenT (k : Q (.d (.int (xs.length : Nat))) h) : rdLen [.d (.tuple xs)] h Q := b_len rfl rfl k
theorem b_lenL (k : Q (.d (.int (xs.length : Nat))) h) : rdLen [.d (.list xs)] h Q := b_len rfl rfl k
theorem b_lenO (e : h a = some (.lst xs)) (k : Q (.d (.int (xs.length : Nat))) h) : rdLen [.own a] h Q := b_len rfl (asQ_own e) k
theorem b_tuple (e2 : asQ h x = some xs) (k : Q (.d (.tuple xs)) h) : rdTuple [x] h Q := by unfold rdTuple; simp only [e2]; exact k
theorem b_tupleL (k : Q (.d (.tuple xs)) h) : rdTuple [.d (.list xs)] h Q := k
theorem b_list (e2 : asQ h x = some xs) (k : QL xs h) : rfList [x] h QL := by unfold rfList; simp only [e2]; exact k
theorem b_listL (k : QL xs h) : rfList [.d (.list xs)] h QL := k
theorem b_listT (k : QL xs h) : rfList [.d (.tuple xs)] h QL := k
theorem b_intI (k : Q (.d (.int i)) h) : rdInt [.d (.int i)] h Q := k
theorem b_intB (k : Q (.d (.int (if b then 1 else 0))) h) : rdInt [.d (.bool b)] h Q := k
theorem b_repr (c : reprOk d) (k : Q (.d (.str d.shown)) h) : rdRepr [.d d] h Q := ⟨c, k⟩
theorem b_sortI (c : ∀ d ∈ ds, ∃ i, d = PyData.int i) (k : QL (ds.mergeSort (leD 1)) h) : rdSorted [.d (.list ds)] h QL := .inl ⟨c, k⟩
theorem b_sortT (m : Nat) (c : tupOk m ds) (k : QL (ds.mergeSort (leD m)) h) : rdSorted [.d (.list ds)] h QL := .inr ⟨m, c, k⟩
theorem b_sortO (m : Nat) (e : h a = some (.lst ds)) (c : tupOk m ds) (k : QL (ds.mergeSort (leD m)) h) : rdSorted [.own a] h QL := by
  unfold rdSorted
  simp only [asL_own e]
  exact .inr ⟨m, c, k⟩
def byK (QL : List PyData → MH → Prop) : List SV → MH → Prop := fun xs h1 => match xs with
  | [x] => match asQ h1 x with
    | some ds => byOk ds ∧ QL (ds.mergeSort leBy) h1
    | none => False
  | _ => False
theorem e_by (k : tA σ h (byK QL)) : fBy tA σ h QL := k
theorem k_by (e : asQ h x = some ds) (c : byOk ds) (k : QL (ds.mergeSort leBy) h) : byK QL [x] h := by unfold byK; simp only [e]; exact ⟨c, k⟩
/-! lists -/
theorem e_fadd (k : ta σ h fun x h1 => tb σ h1 fun y h2 => match asL h2 x, asL h2 y with
  | some a, some b => a.length + b.length ≤ sizeLine ∧ QL (a ++ b) h2
  | _, _ => False) : fAdd ta tb σ h QL := k
def faddK (QL : List PyData → MH → Prop) (x y : SV) (h2 : MH) : Prop := match asL h2 x, asL h2 y with
  | some a, some b => a.length + b.length ≤ sizeLine ∧ QL (a ++ b) h2
  | _, _ => False
theorem e_fAdd (k : ta σ h fun x h1 => tb σ h1 fun y h2 => faddK QL x y h2) : fAdd ta tb σ h QL := k
theorem k_fAdd (e1 : asL h x = some xs) (e2 : asL h y = some ys) (c : xs.length + ys.length ≤ 16777216) (k : QL (xs ++ ys) h) : faddK QL x y h := by unfold faddK; rw [e1, e2]; exact ⟨by rw [sizeLine_eq]; exact c, k⟩
def rg1K (QL : List PyData → MH → Prop) : DK := fun x h1 => match asInt x with
  | some n => n ≤ 16777216 ∧ -16777216 ≤ n ∧ QL (rgD 0 n) h1
  | none => False
theorem e_lrg1 (k : ta σ h (rg1K QL)) : fLstRg1 ta σ h QL := k
theorem k_lrg1 (c1 : n ≤ 16777216) (c2 : -16777216 ≤ n) (k : QL (rgD 0 n) h) : rg1K QL (.d (.int n)) h := ⟨c1, c2, k⟩
def rg2K (QL : List PyData → MH → Prop) (x y : SV) (h2 : MH) : Prop := match asInt x, asInt y with
  | some n, some m => (0 ≤ n ∧ n ≤ 16777216 ∧ -16777216 ≤ m ∧ m ≤ 16777216) ∧ QL (rgD n m) h2
  | _, _ => False
theorem e_lrg2 (k : ta σ h fun x h1 => tb σ h1 fun y h2 => rg2K QL x y h2) : fLstRg2 ta tb σ h QL := k
theorem k_lrg2 (c : 0 ≤ n ∧ n ≤ 16777216 ∧ -16777216 ≤ m ∧ m ≤ 16777216) (k : QL (rgD n m) h) : rg2K QL (.d (.int n)) (.d (.int m)) h := ⟨c, k⟩
theorem e_sl {tl th : DTO} (k : ta σ h fun x h1 => tl σ h1 fun lo h2 => th σ h2 fun hi h3 => rdSl x lo hi h3 Q) : dSl ta tl th σ h Q := k
theorem e_no {QO : Option Int → MH → Prop} (k : QO none h) : dNoPart σ h QO := k
def partK (QO : Option Int → MH → Prop) : DK := fun x h1 => match asInt x with
  | some i => QO (some i) h1
  | none => False
theorem e_part {QO : Option Int → MH → Prop} (k : ta σ h (partK QO)) : dPart ta σ h QO := k
theorem k_part {QO : Option Int → MH → Prop} (k : QO (some i) h) : partK QO (.d (.int i)) h := k
theorem r_slL {lo hi : Option Int} (k : Q (.d (.list (cutD xs lo hi))) h) : rdSl (.d (.list xs)) lo hi h Q := k
theorem r_slT {lo hi : Option Int} (k : Q (.d (.tuple (cutD xs lo hi))) h) : rdSl (.d (.tuple xs)) lo hi h Q := k
theorem m_append (e : h a = some (.lst ds)) (c : ds.length < 16777216) (k : Q (.d .none) (mput h a (.lst (ds ++ [d])))) : rdAppend (.own a) [.d d] h Q := by
  unfold rdAppend fz1
  simp only [ownL_own e]
  exact ⟨by rw [sizeLine_eq]; exact c, k⟩
theorem m_popAt {k' : Nat} (e : h a = some (.lst ds)) (e1 : seqIndex? n ds.length = some k') (e2 : ds[k']? = some d) (c : -(2 ^ 63) ≤ n ∧ n < 2 ^ 63) (k : Q (.d d) (mput h a (.lst (ds.eraseIdx k')))) : rdPopAt (.own a) [.d (.int n)] h Q := by
  unfold rdPopAt asInt
  simp only [ownL_own e, e1, e2]
  exact ⟨c, k⟩
theorem m_index {j : Nat} (e1 : asL h x = some ds) (e2 : asD h y = some d) (e3 : ds.findIdx? (fun z => PyData.eqv z d) = some j) (s1 : SeqAt.shaped (.list ds) = true) (s2 : SeqAt.shaped d = true) (k : Q (.d (.int (j : Nat))) h) : rdIndex x [y] h Q := by
  unfold rdIndex
  simp only [e1, e2, e3]
  exact ⟨s1, s2, k⟩
/-! walks -/
def seqK (QL : List PyData → MH → Prop) : DK := fun x h1 => match fz1 x h1 with
  | some (.list ds, h2) => QL ds h2
  | some (.tuple ds, h2) => QL ds h2
  | _ => False
theorem e_wSeq (k : ta σ h (seqK QL)) : wSeq ta σ h QL := k
theorem k_seqL (k : QL ds h) : seqK QL (.d (.list ds)) h := k
theorem k_seqT (k : QL ds h) : seqK QL (.d (.tuple ds)) h := k
theorem k_seqO (e : h a = some (.lst ds)) (k : QL ds (mdrop h a)) : seqK QL (.own a) h := by unfold seqK fz1; simp only [e]; exact k
def wr1K (QL : List PyData → MH → Prop) : DK := fun x h1 => match asInt x with
  | some n => (-(2 ^ 62) ≤ n ∧ n < 2 ^ 62) ∧ QL (rgD 0 n) h1
  | none => False
theorem e_wRg1 (k : ta σ h (wr1K QL)) : wRg1 ta σ h QL := k
theorem k_wRg1 (c : -(2 ^ 62) ≤ n ∧ n < 2 ^ 62) (k : QL (rgD 0 n) h) : wr1K QL (.d (.int n)) h := ⟨c, k⟩
theorem e_fLc {w : DTI} {g : Tg} {vs : List Nat} (k : w σ h fun ds h1 => ds.length ≤ sizeLine ∧ lcL g t ta (wipeD σ vs) ds [] h1 QL) : fLc w g t ta vs σ h QL := k
end

/-! ## loops -/
/-- a loop by what holds ahead of each turn; K: what comes behind the turn -/
theorem for_inv {g : Tg} {tb : DTS} {D : DEnds} (I : List PyData → DSt → MH → Prop) (step : ∀ d r σ h (K : DSt → MH → Prop), I (d :: r) σ h → (∀ σ' h', I r σ' h' → K σ' h') → ∃ σ1, bindT g (.d d) σ = some σ1 ∧ tb { nx := K, ct := K, bk := D.nx, rt := D.rt } σ1 h)
    (fin : ∀ σ h, I [] σ h → D.nx σ h) : ∀ ds σ h, I ds σ h → forL g tb D ds σ h
  | [], σ, h, i => fin σ h i
  | d :: r, σ, h, i => by
    obtain ⟨σ1, e, w⟩ := step d r σ h (fun σ' h' => forL g tb D r σ' h') i fun σ' h' i' => for_inv I step fin r σ' h' i'
    unfold forL
    rw [e]
    exact w
def lcK (te : DTE) (σ1 : DSt) (acc : List PyData) (K : List PyData → MH → Prop) : Bool → MH → Prop := fun b h1 => if b = true then te σ1 h1 fun y h2 => match fz1 y h2 with
        | some (z, h3) => K (acc ++ [z]) h3
        | none => False
      else K acc h1
def lcE (acc : List PyData) (K : List PyData → MH → Prop) : DK := fun y h2 => match fz1 y h2 with
        | some (z, h3) => K (acc ++ [z]) h3
        | none => False
theorem k_lc {te : DTE} {σ1 : DSt} {acc : List PyData} {K : List PyData → MH → Prop} {b : Bool} {h : MH} (k1 : b = true → te σ1 h (lcE acc K)) (k2 : b = false → K acc h) : lcK te σ1 acc K b h := by
  cases b with
  | true => exact k1 rfl
  | false => exact k2 rfl
theorem k_lcE {acc : List PyData} {K : List PyData → MH → Prop} {d : PyData} {h : MH} (k : K (acc ++ [d]) h) : lcE acc K (.d d) h := k
theorem lc_inv {g : Tg} {tt : DTT} {te : DTE} {σ : DSt} {Q : List PyData → MH → Prop} (I : List PyData → List PyData → MH → Prop) (step : ∀ d r acc h (K : List PyData → MH → Prop), I (d :: r) acc h → (∀ acc' h', I r acc' h' → K acc' h') → ∃ σ1, bindT g (.d d) σ = some σ1 ∧ tt σ1 h (lcK te σ1 acc K))
    (fin : ∀ acc h, I [] acc h → Q acc h) : ∀ ds acc h, I ds acc h → lcL g tt te σ ds acc h Q
  | [], acc, h, i => fin acc h i
  | d :: r, acc, h, i => by
    obtain ⟨σ1, e, w⟩ := step d r acc h (fun acc' h' => lcL g tt te σ r acc' h' Q) i fun acc' h' i' => lc_inv I step fin r acc' h' i'
    unfold lcL
    rw [e]
    exact w
/-- a comprehension that changes nothing -/
theorem lc_pure {g : Tg} {tt : DTT} {te : DTE} {σ : DSt} {Q : List PyData → MH → Prop} {h : MH} (b : PyData → Bool) (f : PyData → PyData) {ds : List PyData}
    (step : ∀ d ∈ ds, ∃ σ1, bindT g (.d d) σ = some σ1 ∧ (∀ K : Bool → MH → Prop, K (b d) h → tt σ1 h K) ∧ (b d = true → ∀ K : DK, K (.d (f d)) h → te σ1 h K)) (fin : Q ((ds.filter b).map f) h) : lcL g tt te σ ds [] h Q := by
  refine lc_inv (fun r acc h' => ∃ l, ds = l ++ r ∧ acc = (l.filter b).map f ∧ h' = h) ?_ ?_ ds [] h ⟨[], rfl, rfl, rfl⟩
  · rintro d r acc h' K ⟨l, e, ea, rfl⟩ hK
    obtain ⟨σ1, e1, t1, t2⟩ := step d (by rw [e]; simp)
    refine ⟨σ1, e1, t1 _ ?_⟩
    refine k_lc (fun q => t2 q _ ?_) fun q => ?_
    · exact k_lcE (hK _ _ ⟨l ++ [d], by rw [e]; simp, by rw [List.filter_append, List.map_append, ← ea]; simp [q], rfl⟩)
    · exact hK _ _ ⟨l ++ [d], by rw [e]; simp, by rw [List.filter_append, List.map_append, ← ea]; simp [q], rfl⟩
  · rintro acc h' ⟨l, e, ea, rfl⟩
    rw [List.append_nil] at e
    subst e
    rw [ea]
    exact fin
end DL

namespace DL
open PySem PySem.Spec PyProof.Rows L2
set_option autoImplicit true

/-! ## own errors with fields, their __init__ calling the base's -/
section
open PySem.W PySem.Calls PySem.HandSPX Builtin Builtin.ObjectAttr
variable {prog : Program} {w : World} {A : Around} {E : Value → Shared → Prop} {R : Result → Shared → Prop} {hp : Heap} {g : Array GenState} {d : Drawn} {t : Nat} {os : OsState} {B newId initId : String} {bmB : List Value}
/-- the first field of a fresh error -/
theorem put_first {K : Frag} {f : Str} {tk : Tok} {u : Value} {e C : Addr} {fv : Array Value} {cd : ClassData} (SF : StoreFacts B bmB "object.__setattr__" "object") (X : K.In hp) (he : hp.get? e = some { cls := .ref C, data := .fields fv }) (hc : clsIn K C = some cd) (ho : excOver K C bmB = true) (hd : cd.hasDict = true) (ht : takerIn K C f = some none)
    (k : ∀ h' tk' dx, (∀ b o, b ≠ e → hp.get? b = some o → h'.get? b = some o) → hp.objs.size ≤ dx → dx ≠ e → h'.get? e = some { cls := .ref C, dict := some dx, data := .fields fv } → h'.Ns1 dx (fun y => if y = f then some u else none) → R (.ok (.ret .none)) ⟨h', g, d, tk', os⟩) :
    codeAny (model prog w) A (.call (.builtin "object.__setattr__") ⟨[.ref e, .str f tk, u], []⟩) R ⟨hp, g, d, t, os⟩ := by
  have hes : e ≠ hp.objs.size := Nat.ne_of_lt (Heap.lt_size he)
  refine osa_openX (od := none) SF X ⟨he, rfl, rfl, trivial⟩ ho ht fun b => ?_
  have hl : Looks (model prog w) hp (classData C) cd := looks_clsIn X hc
  show wpAny _ _ (storeInOwnDict (.ref e) (.ref C) (.str f tk) f u b) _ _ _
  obtain ⟨nm, bs, mro, ns, qn, hd', sn, sb, ab, col, del⟩ := cd
  dsimp only at hd
  subst hd
  unfold storeInOwnDict ownDictForStores
  repeat (first | with_reducible refine store_in_new ?_ ?_ | with_reducible refine wpAny_loadPart_at he ?_ | with_reducible refine hl.at ?_ | wp_step)
  · exact ⟨_, #[], _, (Heap.get?_update_ne _ _ _ _ hes.symm).trans (Heap.get?_push_at rfl rfl), rfl, fun e he => absurd he (by simp), fun _ => rfl⟩
  · intro h' tk' n1 s1
    have he1 : (hp.push { cls := .type "dict", data := .dict #[] }).get? e = some { cls := .ref C, data := .fields fv } := Heap.get?_push_of_some _ he
    refine k h' tk' hp.objs.size (fun b o hb hbo => ?_) (Nat.le_refl _) hes.symm ?_ n1
    · exact (s1.2 b (Nat.ne_of_lt (Heap.lt_size hbo))).trans ((Heap.get?_update_ne _ _ _ _ hb).trans (Heap.get?_push_of_some _ hbo))
    · exact (s1.2 e hes).trans (Heap.get?_update_self _ he1 rfl)
/-- a further field -/
theorem put_more {K : Frag} {f : Str} {tk : Tok} {u : Value} {e C dx : Addr} {fv : Array Value} {cd : ClassData} {m0 : Str → Option Value} {nl : List Str} (SF : StoreFacts B bmB "object.__setattr__" "object") (X : K.In hp) (he : hp.get? e = some { cls := .ref C, dict := some dx, data := .fields fv })
    (hn : hp.Ns1 dx m0) (hw : Within m0 nl) (hz : nl.length ≤ 1000) (hc : clsIn K C = some cd) (ho : excOver K C bmB = true) (hd : cd.hasDict = true) (ht : takerIn K C f = some none)
    (k : ∀ h' tk', (∀ b o, b ≠ dx → hp.get? b = some o → h'.get? b = some o) → h'.Ns1 dx (fun y => if y = f then some u else m0 y) → R (.ok (.ret .none)) ⟨h', g, d, tk', os⟩) :
    codeAny (model prog w) A (.call (.builtin "object.__setattr__") ⟨[.ref e, .str f tk, u], []⟩) R ⟨hp, g, d, t, os⟩ := by
  obtain ⟨oD, esD, epD, hoD, hdD, _⟩ := hn.count hw
  refine osa_openX (od := some oD) SF X ⟨he, rfl, rfl, hoD⟩ ho ht fun b => ?_
  have hl : Looks (model prog w) hp (classData C) cd := looks_clsIn X hc
  show wpAny _ _ (storeInOwnDict (.ref e) (.ref C) (.str f tk) f u b) _ _ _
  obtain ⟨nm, bs, mro, ns, qn, hd', sn, sb, ab, col, del⟩ := cd
  dsimp only at hd
  subst hd
  unfold storeInOwnDict ownDictForStores
  repeat (first | with_reducible refine PySem.OEX.store_in_old hn hw hz ?_ | with_reducible refine wpAny_loadPart_at he ?_ | with_reducible refine hl.at ?_ | wp_step)
  intro h' tk' n1 s1
  exact k h' tk' (fun b o hb hbo => (s1.2 b hb).trans hbo) n1
end
/-- what the written part says of the error class x at C, its base's name and place, its __init__ at fI, its fields -/
structure ErrC (K : PySem.W.Frag) (mg : Str → Option Value) (x base : Str) (C Cb fI : Addr) (fs : List Str) (B newId initId : String) (bmB : List Value) : Prop where
  gC : mg x = some (.ref C)
  gB : mg base = some (.ref Cb)
  cls : ∃ nm q N bs bm sn sub ab col dd k0 k1 k2 k3 k5, K.lookup C = some (PySem.excClassObj nm q C N bs bm true sn sub ab col dd k0 k1 k2 k3 k5 newId) ∧ PySem.W.excTail bmB bm = true
  FB : PySem.ExcBaseFacts B newId initId bmB
  SF : PySem.StoreFacts B bmB "object.__setattr__" "object"
  ov : PySem.W.excOver K C bmB = true
  sa : PySem.W.findIn K (.ref C) "__setattr__" = some (some (.builtin "object.__setattr__"))
  ga : PySem.W.findIn K (.ref C) "__getattribute__" = some (some (.builtin "BaseException.__getattribute__"))
  gg : PySem.W.findIn K (.ref C) "__getattr__" = some none
  tk : ∀ f ∈ fs, PySem.W.takerIn K C f = some none
  no : ∀ f ∈ fs, PySem.W.findIn K (.ref C) f = some none
  iC : PySem.W.findIn K (.ref C) "__init__" = some (some (.ref fI))
  tC : PySem.W.typeIn K (.ref fI) = some (.type "function")
  kC : PySem.W.keepIn K (.ref C) = true
  exC : PySem.W.subIn K (.ref C) (.type "BaseException") = some true
  tyC : PySem.W.typeIn K (.ref C) = some (.type "type")
  hdC : PySem.W.hasDictIn K C = true
  rdB : PySem.W.readsIn K Cb (.type "type") = true
  gaB : PySem.W.specialIn K (.ref Cb) "__getattribute__" = some (some (.builtin "type.__getattribute__"))
  hI : PySem.W.handedIn (.builtin initId) = true
  biB : PySem.W.findCls K (.ref Cb) (.type "type") "__init__" = some (.val (.builtin initId))

abbrev eCall (base : Str) (q1 q2 q3 q4 q5 : Pos) : Stmt := .Expr (.Call (.Attribute (.Name base q1) "__init__" q2) [.Name "self" q3] [] q4) q5
abbrev ePut (f : Str) (q1 q2 q3 q4 : Pos) : Stmt := .Assign [.Attribute (.Name "self" q1) f q2] (.Name f q3) q4
/-- the scope of such an __init__ -/
structure EScope (scope : Scope) (base : Str) (fs : List Str) : Prop where
  kind : scope.kind = .function
  co : scope.isCoroutine = false
  gen : scope.isGenerator = false
  me : scope.names.lookup ("self" : Str) = some .local
  base : scope.names.lookup base = some .globalImplicit
  fs : ∀ f ∈ fs, scope.names.lookup f = some .local ∧ f ≠ ("self" : Str) ∧ (f == ("__debug__" : Str)) = false
/-- what __init__ leaves of a fresh error at e -/
structure EInit (h h' : Heap) (e C dx t1 : Addr) (m : Str → Option Value) : Prop where
  keep : ∀ b o, b ≠ e → h.get? b = some o → h'.get? b = some o
  obj : h'.get? e = some { cls := .ref C, dict := some dx, data := .fields #[.ref t1, .none, .none, .none, .bool false, .none] }
  big : h.objs.size ≤ dx
  ne : dx ≠ e
  ns : h'.Ns1 dx m
section
open PySem.W PySem.Calls PySem.HandSPX
variable {prog : Program} {w : World} {A : Around} {R : Result → Shared → Prop} {s : Shared} {K : Frag} {mg : Str → Option Value} {x base qual : Str} {C Cb fI : Addr} {B newId initId : String} {bmB : List Value} {params : Arguments} {scope : Scope} {fd : FuncData}
theorem e_load {M : Model} {A : Around} {E : Value → Shared → Prop} {s : Shared} {env : Env} {m : Str → Option Value} {y : Str} {pos : Pos} {v : Value} {Q : Value → Shared → Prop} (hk : env.scope.kind = .function) (hl : env.kindOf y = some .local) (hn : s.heap.Ns env.locals m) (hv : m y = some v) (k : Q v s)
    (hd : (y == ("__debug__" : Str)) = false) : wpAny M A (eval (.Name y pos) env) Q E s := wpAny_Name (wpAny_loadName_local hk hl hn hv k) hd
theorem bind2 {kindOf : Str → Option NameKind} {f : Str} {a v : Value} (h1 : kindOf "self" = some .local) (h2 : kindOf f = some .local) (ne : f ≠ ("self" : Str)) : bindL kindOf [("self", a), (f, v)] (fun _ => none) "self" = some a ∧ bindL kindOf [("self", a), (f, v)] (fun _ => none) f = some v := by
  have ne' : ¬ ("self" : Str) = f := fun z => ne z.symm
  constructor
  · simp [bindL, h1, h2, ne']
  · simp [bindL, h1, h2]
theorem err_init1 {f : Str} {q1 q2 q3 q4 q5 q6 q7 q8 q9 : Pos} {e t0 : Addr} {v : Value} (T : ErrC K mg x base C Cb fI [f] B newId initId bmB) (F : FunD K "__init__" qual params [eCall base q1 q2 q3 q4 q5, ePut f q6 q7 q8 q9] scope [] [] fI fd) (S : EScope scope base [f])
    (hb : ∀ (kV doc pm : Value) (an : Option Addr) (cdv ct : Value) (us : List Value), us.length = 2 → bindArgs (fnOf "__init__" qual params [eCall base q1 q2 q3 q4 q5, ePut f q6 q7 q8 q9] scope .none kV doc pm an cdv ct) ⟨us, []⟩ = pure ([("self" : Str), f].zip us))
    {pl : Env → Sem Bool} (hc : ∀ env : Env, eval (.Call (.Attribute (.Name base q1) "__init__" q2) [.Name "self" q3] [] q4) env = (do
      let ov ← eval (.Name base q1) env
      standAt q2.atName
      let (f, first) ← holding [ov] (getMethod ov "__init__" (pl env))
      callWith q4 f first (backTo q4 (starEach [.Name "self" q3] env)) (backToKw q4 (keywordEach [] env))))
    (hsw : ∀ env : Env, swapsWith (.Call (.Attribute (.Name base q1) "__init__" q2) [.Name "self" q3] [] q4) none q5.line env = pure false) (hdb : (base == ("__debug__" : Str)) = false) (hsw2 : ∀ env : Env, swapsWith (.Name f q8) (some (.Attribute (.Name "self" q6) f q7)) q9.line env = pure false)
    (X : K.In s.heap) (hlim : s.heap.NoLimit) (hglo : s.heap.Ns mainGlobals mg) (he : s.heap.get? e = some (excO C t0)) (hne : K.lookup e = none) (hroom : A.depth < recursionLimit)
    (k : ∀ h' tk dx t1, EInit s.heap h' e C dx t1 (fun y => if y = f then some v else none) → R (.ok (.ret .none)) { s with heap := h', toks := tk }) :
    codeAny (model prog w) A (.call (.ref fI) ⟨[.ref e, v], []⟩) R s := by
  obtain ⟨oc, od, dV, kV, doc, pm, an, cdv, ct, osl, rfl, lk, hcd, hD, hK⟩ := F.ex
  obtain ⟨hf1, hf2, hf3⟩ := S.fs f List.mem_cons_self
  obtain ⟨nm, q, N, bs, bm, sn, sub, ab, col, dd, k0, k1, k2, k3, k5, hC, hbm⟩ := T.cls
  have hcl : clsIn K C = some { name := nm, bases := bs, mro := .ref C :: bm, ns := N, qualname := q, hasDict := true, slotNames := sn, subclasses := sub, abstract := ab, collection := col, hasDel := false } := by unfold clsIn; rw [hC] <;> rfl
  have dv : dV = .none := by
    rcases hD with ⟨_, z⟩ | ⟨z, _⟩
    · exact z
    · exact absurd rfl z
  subst dv
  refine Att.call_fn (binds := [("self", .ref e), (f, v)]) X hlim lk hcd hroom (BindsTo.of_eq (hb _ _ _ _ _ _ [.ref e, v] rfl)) (by simp [S.me, hf1]) (fun s₁ IC => ?_) S.co S.gen S.kind
  obtain ⟨h₁, tk₁, rfl⟩ := IC.toInCall.same
  have kp : ∀ b o, s.heap.get? b = some o → h₁.get? b = some o := IC.toInCall.keep
  have hn := IC.toInCall.ns
  have X₁ : K.In h₁ := X.keeps kp
  have he₁ := kp _ _ he
  have kme : (envOfC qual scope s.heap.objs.size fI cdv).kindOf "self" = some .local := S.me
  have kf : (envOfC qual scope s.heap.objs.size fI cdv).kindOf f = some .local := hf1
  obtain ⟨b1, b2⟩ := bind2 (a := .ref e) (v := v) kme kf hf2
  have lt : s.heap.objs.size < h₁.objs.size := hn.lt
  show wpAny _ _ (execs _ _) _ _ _
  refine wpAny_execs_cons (wpAny_Expr_any ?_ (by simp [interactive, envOfC, S.kind]) (hsw _))
  refine methodCall_KW (Calls.Name_function_global S.kind S.base (Calls.loadGlobal_global (hglo.keeps kp) T.gB ?_) hdb) (hc _)
  refine method_cls X₁ T.gaB (cls_value X₁ T.rdB T.biB T.hI ?_)
  refine callWith_method1 (first := []) ?_ rfl rfl
  show wpAny _ _ (spliced [(false, eval (.Name "self" q3) _)]) _ _ _
  refine Calls.spliced_cons (e_load (v := .ref e) S.kind kme hn b1 (Calls.spliced_nil ?_) (by decide))
  show wpAny _ _ (call (.builtin initId) [.ref e]) _ _ _
  refine wpAny_call (init_base T.FB (fun Y => excTail_contains Y bm hbm) (X₁ _ _ hC) he₁ (by rw [sizeLine_eq]; decide) fun h₂ t1 k₂ he₂ => ?_)
  have neL : s.heap.objs.size ≠ e := Nat.ne_of_gt (Heap.lt_size he)
  have X₂ : K.In h₂ := fun b o z => k₂ b o (fun y => by rw [y, hne] at z; cases z) (X₁ b o z)
  obtain ⟨oL, esL, nL, gL, dL, rL⟩ := hn
  have hn₂ : h₂.Ns s.heap.objs.size _ := ⟨oL, esL, nL, k₂ _ _ neL gL, dL, rL⟩
  show wpAny _ _ (execs _ _) _ _ _
  refine wpAny_execs_cons (plainObj_wpAny_Assign_Attribute ?_ (hsw2 _))
  refine e_load (v := v) S.kind kf hn₂ b2 (e_load (v := .ref e) S.kind kme hn₂ b1 ?_ (by decide)) hf3
  refine set_plain X₂ (ox := excO C t1) (od := none) ⟨he₂, rfl, rfl, trivial⟩ T.sa ?_
  refine put_first T.SF X₂ he₂ hcl T.ov rfl (T.tk f List.mem_cons_self) fun h₃ tk₃ dx k₃ dn dne he₃ hn₃ => ?_
  show wpAny _ _ (execs _ _) _ _ _
  have old : ∀ b o, b ≠ e → s.heap.get? b = some o → h₃.get? b = some o := fun b o hb z => k₃ b o hb (k₂ b o hb (kp b o z))
  refine wpAny_execs_nil (k h₃ tk₃ dx t1 ⟨old, he₃, ?_, dne, hn₃⟩)
  exact Nat.le_trans (Nat.le_of_lt hn₂.lt) dn

/-- a made error -/
structure EMade (h h' : Heap) (e C dx : Addr) (m : Str → Option Value) : Prop where
  keep : ∀ b o, h.get? b = some o → h'.get? b = some o
  new : h.objs.size ≤ e
  obj : ∃ oe vs, h'.get? e = some oe ∧ oe.cls = .ref C ∧ oe.dict = some dx ∧ oe.data = .fields vs ∧ vs[1]? = some .none
  big : h.objs.size ≤ dx
  ne : dx ≠ e
  ns : h'.Ns1 dx m
theorem err_made {fs : List Str} {vs : List Value} {m : Str → Option Value} (T : ErrC K mg x base C Cb fI fs B newId initId bmB) (X : K.In s.heap) (hlim : s.heap.NoLimit) (hglo : s.heap.Ns mainGlobals mg) (hroom : A.depth + 1 < recursionLimit) (hz : vs.length ≤ sizeLine)
    (init : ∀ {A : Around} {R : Result → Shared → Prop} {s : Shared} {e t0 : Addr}, K.In s.heap → s.heap.NoLimit → s.heap.Ns mainGlobals mg → s.heap.get? e = some (excO C t0) → K.lookup e = none → A.depth < recursionLimit →
      (∀ h' tk dx t1, EInit s.heap h' e C dx t1 m → R (.ok (.ret .none)) { s with heap := h', toks := tk }) → codeAny (model prog w) A (.call (.ref fI) ⟨.ref e :: vs, []⟩) R s)
    (k : ∀ h' tk e dx, EMade s.heap h' e C dx m → R (.ok (.ret (.ref e))) { s with heap := h', toks := tk }) : codeAny (model prog w) A (.call (.ref C) ⟨vs, []⟩) R s := by
  obtain ⟨nm, q, N, bs, bm, sn, sub, ab, col, dd, k0, k1, k2, k3, k5, hC, hbm⟩ := T.cls
  obtain ⟨hp, g, dr, tk, os⟩ := s
  have up : ∀ b o, hp.get? b = some o → ((hp.push (kdv_tup vs)).push (excO C hp.objs.size)).get? b = some o := fun b o z => Heap.get?_push_of_some _ (Heap.get?_push_of_some _ z)
  have at_ : ((hp.push (kdv_tup vs)).push (excO C hp.objs.size)).get? (hp.objs.size + 1) = some (excO C hp.objs.size) := by
    have z := Heap.get?_push_size (hp.push (kdv_tup vs)) (o := excO C hp.objs.size) rfl
    rw [Heap.size_push] at z
    exact z
  have fresh : K.lookup (hp.objs.size + 1) = none := by
    cases z : K.lookup (hp.objs.size + 1) with
    | none => rfl
    | some o => exact absurd (Heap.lt_size (X _ _ z)) (Nat.not_lt.mpr (Nat.le_succ hp.objs.size))
  refine call_own T.FB (fun Y => excTail_contains Y bm hbm) (X _ _ hC) (looks_findIn X T.iC) (fun self => bind_fn X self T.tC) hz ?_
  refine init (s := ⟨(hp.push (kdv_tup vs)).push (excO C hp.objs.size), g, dr, tk, os⟩) (X.keeps up) (hlim.keeps up) (hglo.keeps up) at_ fresh (show A.depth + 1 < recursionLimit from hroom) fun h' tk' dx t1 M => ?_
  have old : ∀ b o, hp.get? b = some o → h'.get? b = some o := fun b o z => M.keep b o (Nat.ne_of_lt (Nat.lt_succ_of_lt (Heap.lt_size z))) (up b o z)
  have big : hp.objs.size + 1 + 1 ≤ dx := by
    have z := M.big
    rw [Heap.size_push, Heap.size_push] at z
    exact z
  exact ⟨rfl, k h' tk' (hp.objs.size + 1) dx ⟨old, Nat.le_succ _, ⟨_, _, M.obj, rfl, rfl, rfl, rfl⟩, Nat.le_trans (Nat.le_trans (Nat.le_succ _) (Nat.le_succ _)) big, M.ne, M.ns⟩⟩
end

/-! ## raise, in a def -/
theorem rel_one {f : Str} {v : V} {u : Value} (r : RelV v u) (y : Str) : RelO (List.lookup y [(f, v)]) (if y = f then some u else none) := by
  by_cases q : y = f
  · subst q
    rw [if_pos rfl]
    have z : List.lookup y [(y, v)] = some v := by simp [List.lookup]
    rw [z]
    exact r
  · rw [if_neg q]
    have q' : (y == f) = false := by simpa using q
    have z : List.lookup y [(f, v)] = none := by simp [List.lookup, q']
    rw [z]
    trivial
/-- C(e): an error with one field -/
def tMk1 (C : Addr) (f : Str) (ta : TA) : L2.St → Hp → XK → Prop := fun σ H Q => ta σ H fun vs H1 => ∃ v, vs = [v] ∧ ∀ d, H1 d = none → Q (.ref C) (some d) (upd H1 d (.xd [(f, v)]))
/-- what is known of such a class's __init__ -/
def Init1 (K : PySem.W.Frag) (mg : Str → Option Value) (C fI : Addr) (f : Str) : Prop := ∀ (prog : Program) (w : World) (A : Around) (R : Result → Shared → Prop) (s : Shared) (e t0 : Addr) (v : Value), K.In s.heap → s.heap.NoLimit → s.heap.Ns mainGlobals mg → s.heap.get? e = some (PySem.HandSPX.excO C t0) → K.lookup e = none → A.depth < recursionLimit →
  (∀ h' tk dx t1, EInit s.heap h' e C dx t1 (fun y => if y = f then some v else none) → R (.ok (.ret .none)) { s with heap := h', toks := tk }) → codeAny (model prog w) A (.call (.ref fI) ⟨[.ref e, v], []⟩) R s
section
variable {X : Cx} {x base f : Str} {C Cb fI : Addr} {B newId initId : String} {bmB : List Value}
theorem pmk_1 {a : Expr} {ta : TA} {p pos : Pos} {k : Nat} (T : ErrC X.K X.mg x base C Cb fI [f] B newId initId bmB) (N : Init1 X.K X.mg C fI f) (hr : Room k X.A) (ha : PA X [a] ta) (hg : Gl X x) (hdb : (x == ("__debug__" : Str)) = false)
    (he : starEach (a :: []) X.env = (false, eval a X.env) :: starEach [] X.env := by rfl) (hpl : (backTo pos (starEach [] X.env)).any (·.1) = false := by rfl) :
    PMk X (.Call (.Name x p) [a] [] pos) (tMk1 C f ta) := by
  intro pins s σ H Q I h
  refine wpAny_Call_Name_kw (ld_glob I hg T.gC ?_ hdb)
  refine PySem.W.callWith_K (h₀ := X.base) I.ok.mod.kin T.kC (thn (ha.run pos pins s σ H _ I h) fun us s1 hh => ?_) he hpl
  obtain ⟨vs, H1, I1, r1, v, ev, q1⟩ := hh
  subst ev
  refine ⟨I1.kIn, ?_⟩
  obtain ⟨u, rfl, ru⟩ := vals1 r1
  show wpAny _ _ (call (.ref C) [u]) _ _ _
  have hlim := I1.nolimit
  have hglo : s1.heap.Ns mainGlobals X.mg := I1.mod.glob.keeps I1.bk
  obtain ⟨hp, g, dr, tk, os⟩ := s1
  refine wpAny_call (err_made T I1.kIn hlim hglo (by have := hr.dp; omega) (by rw [sizeLine_eq]; show 1 ≤ 16777216; decide) (fun {A R s e t0} a1 a2 a3 a4 a5 a6 a7 => N _ _ A R s e t0 u a1 a2 a3 a4 a5 a6 a7) fun h' tk' e d M => ?_)
  show MkP X pins σ Q (.ref e) ⟨h', g, dr, tk', os⟩
  obtain ⟨oe, fv, hoe, hc, hd, hdat, h1⟩ := M.obj
  obtain ⟨G', g1, g2⟩ := restrict h' fun b => decide (b ≠ e)
  have gk : ∀ b, b ≠ e → G'.get? b = h'.get? b := fun b hb => g1 b (decide_eq_true hb)
  have ge : G'.get? e = none := g2 e (by simp)
  have old : ∀ b o, hp.get? b = some o → G'.get? b = some o := fun b o q => (gk b (Nat.ne_of_lt (Nat.lt_of_lt_of_le (Heap.lt_size q) M.new))).trans (M.keep b o q)
  have ob : ObjOk X.prog X.w (upd H1 d (.xd [(f, v)])) G' d (.xd [(f, v)]) := ⟨_, M.ns.at (fun o q => (gk d M.ne).trans q), fun y => rel_one ru y⟩
  have J : Inv X pins σ (upd H1 d (.xd [(f, v)])) ⟨G', g, dr, tk', os⟩ := I1.laid (t' := tk') old M.big ob
  refine ⟨e, oe, fv, ⟨G', g, dr, tk', os⟩, _, .ref C, some d, rfl, J, fun b o q => ?_, ge, hoe, ⟨hc, hd⟩, hdat, h1, ?_, rfl, I1.bare, raises_own T.exC T.tyC, q1 d (I1.hok.fresh M.big)⟩
  · by_cases hb : b = e
    · have q' : G'.get? b = some o := q
      rw [hb, ge] at q'
      cases q'
    · exact (gk b hb).symm.trans q
  · rw [upd_ne (Ne.symm M.ne)]
    exact I1.hok.fresh M.new
/-- raise C(e) -/
def dRaise1 (E : DXS) (n f : Str) (t : DTA) : DTS := fun _ σ h => t σ h fun xs h1 => match fzs xs h1 with
  | some ([d], h2) => E ⟨n, [(f, d)]⟩ σ h2
  | _ => False
theorem ds_raise1 {a : Expr} {t : DTA} {E : DXS} {p pos pos2 : Pos} {k : Nat} (hc : X.calm = true) (T : ErrC X.K X.mg x base (He.ga X.K x) Cb fI [f] B newId initId bmB) (N : Init1 X.K X.mg (He.ga X.K x) fI f) (hr : Room k X.A) (tk : Takes X (liftX X.K Γ E)) (ha : DA X Γ [a] t) (hg : Gl X x := by rfl) (hdb : (x == ("__debug__" : Str)) = false := by decide)
    (he : starEach (a :: []) X.env = (false, eval a X.env) :: starEach [] X.env := by rfl) (hpl : (backTo pos (starEach [] X.env)).any (·.1) = false := by rfl) :
    DS X Γ (.Raise (some (.Call (.Name x p) [a] [] pos)) none pos2) (dRaise1 E x f t) := by
  refine ⟨fun D D' σ h l w => w, ps_imp (ps_raise hc tk (pmk_1 T N hr ha.pa hg hdb he hpl)) fun D σ H ⟨σd, h, rs, rm, w⟩ => ?_⟩
  refine lift_mk ha.mono rs rm w fun xs h1 vs H1 px rs1 rvs rm1 w1 => ?_
  split at w1
  · rename_i d h2 e1
    obtain ⟨p2, rm2, dp⟩ := fzs_ok rvs rm1 e1
    obtain ⟨v, dv, rfl⟩ : ∃ v, Dp X.K (Fz Γ H1 h2) v d ∧ vs = [v] := by
      cases dp with
      | cons a b => cases b; exact ⟨_, a, rfl⟩
    refine ⟨v, rfl, fun dd nd => ?_⟩
    have p3 : PX Γ H1 h2 (upd H1 dd (.xd [(f, v)])) h2 := rm2.px nd
    refine ⟨⟨x, [(f, d)]⟩, σd, h2, (rs1.up p2).up p3, RM.new nd rm2, ⟨rfl, .inr ⟨dd, [(f, v)], rfl, Fz.of upd_same (rm2.tracked nd) (rm2.notx nd), .cons ⟨rfl, dp_up p3.ex _ _ dv⟩ .nil⟩⟩, w1⟩
  · exact w1.elim
end
end DL

namespace DL
open PySem PySem.Spec PyProof.Rows L2
set_option autoImplicit true

/-! ## try / except x as n -/
def GI.at (Γ : GI) (H0 : Hp) (h0 : MH) : GI where
  x := Γ.x
  T := Γ.T
  G := fun H h => Γ.G H h ∧ PXx Γ.x H0 h0 H h
  st := fun p q => ⟨Γ.st p q.1, q.2.trans p⟩
theorem RM.at {K : PySem.W.Frag} {H : Hp} {h : MH} (r : RM K Γ H h) : RM K (Γ.at H h) H h := ⟨r.ob, ⟨r.g, PXx.refl⟩, r.nx, r.tb⟩
theorem RM.un {K : PySem.W.Frag} {H H0 : Hp} {h h0 : MH} (r : RM K (Γ.at H0 h0) H h) : RM K Γ H h := ⟨r.ob, r.g.1, r.nx, r.tb⟩
/-- where an exception is held -/
def GI.exc (Γ : GI) (K : PySem.W.Frag) (y : DExc) (cls : Value) (d : Option Addr) : GI where
  x := Γ.x
  T := Γ.T
  G := fun H h => Γ.G H h ∧ RX K (G0 Γ.x Γ.T) H h y cls d
  st := fun p q => ⟨Γ.st p q.1, rx_up (Γ := G0 Γ.x Γ.T) p q.2⟩
theorem RM.unE {K K' : PySem.W.Frag} {H : Hp} {h : MH} {y : DExc} {cls : Value} {d : Option Addr} (r : RM K (Γ.exc K' y cls d) H h) : RM K Γ H h := ⟨r.ob, r.g.1, r.nx, r.tb⟩
abbrev clrN (i : Nat) (D : DEnds) : DEnds := { nx := fun σ' h' => D.nx (σ'.set i none) h', rt := D.rt, bk := fun σ' h' => D.bk (σ'.set i none) h', ct := fun σ' h' => D.ct (σ'.set i none) h' }
def dWas (kt : Str → Str → Option Bool) (n : Str) (i : Nat) (ts : Addr → DExc → DTS) (Eo : DXS) (D : DEnds) : DXS := fun y σ h => ∃ b, kt y.cls n = some b ∧
  (b = true → ∀ a, h a = none → ts a y (clrN i D) (σ.set i (some (.own a))) h) ∧ (b = false → Eo y σ h)
def dTryAs (kt : Str → Str → Option Bool) (n : Str) (i : Nat) (tb : DXS → DTS) (ts : Addr → DExc → DTS) (Eo : DXS) : DTS := fun D σ h =>
  ∃ (E0 : DXS) (D0 : DEnds), (∀ y σ' h', E0 y σ' h' → dWas kt n i ts Eo D y σ' h') ∧ DEnds.Le D0 D ∧ tb E0 D0 σ h
theorem tryAs_mk {kt : Str → Str → Option Bool} {n : Str} {i : Nat} {tb : DXS → DTS} {ts : Addr → DExc → DTS} {Eo : DXS} {D : DEnds} {σ : DSt} {h : MH} (w : tb (dWas kt n i ts Eo D) D σ h) : dTryAs kt n i tb ts Eo D σ h := ⟨_, _, fun _ _ _ z => z, le_refl, w⟩
theorem le_trans {A B C : DEnds} (p : DEnds.Le A B) (q : DEnds.Le B C) : DEnds.Le A C := ⟨fun _ _ z => q.nx _ _ (p.nx _ _ z), fun _ _ z => q.rt _ _ (p.rt _ _ z), fun _ _ z => q.bk _ _ (p.bk _ _ z), fun _ _ z => q.ct _ _ (p.ct _ _ z)⟩
section
variable {X : Cx} {x n : Str} {cv : Value} {i : Nat} {body suite : List Stmt} {b₀ : Stmt} {np pos pos' : Pos} {kt : Str → Str → Option Bool} {tb : DXS → DTS} {ts : Addr → DExc → DTS} {Eo : DXS}
theorem ds_tryAs (i : Nat) (hs : X.stack = X.env :: X.outer) (hf : X.env.frame = some X.env.locals) (hN : X.N.Nodup) (hc : Names X x cv) (hkt : ∀ c b, kt c x = some b → PySem.W.exmOne X.K (.ref (He.ga X.K c)) cv = some b) (tk : Takes X (liftX X.K Γ Eo))
    (hb : ∀ (Γ1 : GI), Γ1.T = Γ.T → ∀ (Ed : DXS) (pn : List (Addr × Obj)) (xe : Value → Shared → Prop), Takes (X.tr pn xe) (liftX X.K Γ1 Ed) → PassesOwn (model X.prog X.w) X.A X.env xe → DSs (X.tr pn xe) Γ1 body (tb Ed))
    (hsu : ∀ (Γ1 : GI), Γ1.T = Γ.T → ∀ (a : Addr) (oe : Obj) (y : DExc) (d : Option Addr) (pn : List (Addr × Obj)), Zc (.ref (He.ga X.K y.cls)) d oe → (∃ vs, oe.data = .fields vs) → DSs (X.suite a ((a, oe) :: pn)) (Γ1.exc X.K y (.ref (He.ga X.K y.cls)) d) (b₀ :: suite) (ts a y))
    (hi : X.N[i]? = some n := by rfl) (hln : X.env.kindOf n = some .local := by rfl) :
    DS X Γ (.Try body [.ExceptHandler (some (.Name x np)) (some n) (b₀ :: suite) pos'] [] [] pos) (dTryAs kt x i tb ts Eo) := by
  have ms : ∀ a y, MonoS (ts a y) := fun a y => (hsu Γ rfl a { cls := .ref (He.ga X.K y.cls), dict := none, data := .fields #[] } y none [] ⟨rfl, rfl⟩ ⟨_, rfl⟩).mono
  have clrLe : ∀ {D D' : DEnds}, DEnds.Le D D' → DEnds.Le (clrN i D) (clrN i D') := fun l => ⟨fun _ _ z => l.nx _ _ z, l.rt, fun _ _ z => l.bk _ _ z, fun _ _ z => l.ct _ _ z⟩
  refine ⟨?_, ?_⟩
  · rintro D D' σ h l ⟨E0, D0, hE, hD, w⟩
    refine ⟨E0, D0, fun y σ' h' z => ?_, le_trans hD l, w⟩
    obtain ⟨b, e, p, q⟩ := hE y σ' h' z
    exact ⟨b, e, fun eb a na => ms _ _ _ _ _ _ (clrLe l) (p eb a na), q⟩
  · let tsR : Addr → Value → Option Addr → TS := fun a cls d D σ H => ∃ (Γ1 : GI) (y : DExc), Γ1.T = Γ.T ∧ cls = .ref (He.ga X.K y.cls) ∧ liftS X.K (Γ1.exc X.K y cls d) (ts a y) D σ H
    let tbR : WX → TS := fun W D σ H => ∃ (Γ1 : GI) (Ed : DXS) (D0 : DEnds) (σd : DSt) (h : MH), Γ1.T = Γ.T ∧ (∀ cls d σ' H', liftX X.K Γ1 Ed cls d σ' H' → W cls d σ' H') ∧ RSt X.K Γ1 H h σd σ ∧ RM X.K Γ1 H h ∧ DEnds.Le D0 (liftE X.K Γ1 H h D) ∧ tb Ed D0 σd h
    refine ps_imp (ps_try_as (c := cv) (i := i) (tb := tbR) (ts := tsR) (Wout := liftX X.K Γ Eo) hs hf hN hi hln hc tk (fun W pn xe tk' ps => ?_) fun a oe cls d pn hz hfl => ?_) fun D σ H ⟨σd, h, rs, rm, E0, D0, hE, hD, w⟩ => ?_
    · exact ⟨fun pins s σ H D I ⟨Γ1, Ed, D0, σd, h, hT, le, rs, rm, l, w⟩ => by
        have der := hb Γ1 hT Ed pn xe (tk'.imp le) ps
        exact der.ps.run pins s σ H D I ⟨σd, h, rs, rm, der.mono _ _ _ _ l w⟩⟩
    · exact ⟨fun pins s σ H D I ⟨Γ1, y, hT, ec, w⟩ => by
        subst ec
        exact (hsu Γ1 hT a oe y d pn hz hfl).ps.run pins s σ H D I w⟩
    · refine ⟨Γ.at H h, E0, D0, σd, h, rfl, fun cls d σ' H' ⟨y, σd', h', rs', rm', rx, e⟩ => ?_, rs, rm.at, ?_, w⟩
      · obtain ⟨b, hb1, hyes, hno⟩ := hE _ _ _ e
        refine ⟨b, by rw [rx.1]; exact hkt _ _ hb1, fun q a na => ?_, fun q => ⟨y, σd', h', rs', rm'.un, rx, hno q⟩⟩
        refine ⟨Γ.at H h, y, rfl, rx.1, σd'.set i (some (.own a)), h', ?_, ⟨rm'.ob, ⟨rm'.g, rx⟩, rm'.nx, rm'.tb⟩, ms _ _ _ _ _ _ ?_ (hyes q a (rm'.tracked na))⟩
        · exact RSt.set (Γ := Γ) (x := .own a) (v := .ref a) rs' rfl
        · exact ⟨fun σd2 h2 z σ2 H2 px rs2 rm2 => z _ H2 rm2.g.1.2 (RSt.clr (Γ := Γ) rs2 none) rm2.unE.un, fun v2 h2 z v H2 px rv2 rm2 => z v H2 rm2.g.1.2 rv2 rm2.unE.un,
            fun σd2 h2 z σ2 H2 px rs2 rm2 => z _ H2 rm2.g.1.2 (RSt.clr (Γ := Γ) rs2 none) rm2.unE.un, fun σd2 h2 z σ2 H2 px rs2 rm2 => z _ H2 rm2.g.1.2 (RSt.clr (Γ := Γ) rs2 none) rm2.unE.un⟩
      · exact le_trans hD ⟨fun σd2 h2 z σ2 H2 px rs2 rm2 => z σ2 H2 px rs2 rm2.un, fun v2 h2 z v H2 px rv2 rm2 => z v H2 px rv2 rm2.un, fun σd2 h2 z σ2 H2 px rs2 rm2 => z σ2 H2 px rs2 rm2.un, fun σd2 h2 z σ2 H2 px rs2 rm2 => z σ2 H2 px rs2 rm2.un⟩
end

/-! ## what the suite asks of the exception -/
/-- a class by its name -/
def btV (n : Str) : Option Value := if n = "LookupError" then some (.type "LookupError") else if n = "ValueError" then some (.type "ValueError") else if n = "Exception" then some (.type "Exception") else none
def cvK (K : PySem.W.Frag) (n : Str) : Value := match btV n with
  | some v => v
  | none => .ref (He.ga K n)
def anyK (kt : Str → Str → Option Bool) (c : Str) : List Str → Option Bool
  | [] => some false
  | n :: r => match kt c n with
    | some true => some true
    | some false => anyK kt c r
    | none => none
/-- what the written part says of the law's own error classes -/
structure KitE (K : PySem.W.Frag) (kt : Str → Str → Option Bool) (xt : Str → Str → Bool) : Prop where
  exc : ∀ c n b, kt c n = some b → ExcC K (He.ga K c)
  exm : ∀ c n b, kt c n = some b → PySem.W.exmOne K (.ref (He.ga K c)) (cvK K n) = some b
  kit : ∀ c n b, kt c n = some b → PySem.W.kitOne K (.ref (He.ga K c)) (cvK K n) = some b
  xf : ∀ c f, xt c f = true → XfC K (He.ga K c) ∧ PySem.W.findIn K (.ref (He.ga K c)) f = some none
theorem KitE.any {K : PySem.W.Frag} {kt : Str → Str → Option Bool} {xt : Str → Str → Bool} (T : KitE K kt xt) {c : Str} : ∀ {ns : List Str} {b : Bool}, anyK kt c ns = some b → PySem.W.kitAny K (.ref (He.ga K c)) (ns.map (cvK K)) = some b
  | [], b, h => h
  | n :: r, b, h => by
    unfold anyK at h
    show PySem.W.kitAny K _ (cvK K n :: r.map (cvK K)) = _
    split at h
    · rename_i e
      unfold PySem.W.kitAny
      rw [T.kit _ _ _ e]
      exact h
    · rename_i e
      unfold PySem.W.kitAny
      rw [T.kit _ _ _ e]
      exact T.any h
    · cases h
theorem inst_of {X : Cx} {a D : Addr} {oe : Obj} {d : Option Addr} {pn pins : List (Addr × Obj)} {σ : L2.St} {H : Hp} {s : Shared} (I : Inv (X.suite a ((a, oe) :: pn)) pins σ H s) (hz : Zc (.ref D) d oe) (hf : ∃ vs, oe.data = .fields vs) (hd : d = none ∨ ∃ dd fs, d = some dd ∧ H dd = some (.xd fs)) :
    ∃ od, PySem.W.InstAt s.heap a oe D od := by
  obtain ⟨ha, _⟩ := I.pin (a, oe) (List.mem_append_left _ List.mem_cons_self)
  obtain ⟨vs, hv⟩ := hf
  rcases hd with e | ⟨dd, fs, e, ea⟩
  · subst e
    exact ⟨none, ha, hz.1, by unfold PySem.W.notCls; rw [hv] <;> rfl, by rw [hz.2]; trivial⟩
  · subst e
    obtain ⟨mA, hns, hr⟩ := (show ObjOk X.prog X.w H s.heap dd (.xd fs) from I.hok dd _ ea)
    obtain ⟨od, ho, hl⟩ := lookIn_ns hns
    exact ⟨some od, ha, hz.1, by unfold PySem.W.notCls; rw [hv] <;> rfl, by rw [hz.2]; exact ho⟩
theorem kit_exc {K : PySem.W.Frag} {x D : Addr} {ox : Obj} {od : Option Obj} (C : ExcC K D) : PySem.W.KitX K (.ref x) (.ref D) (fun h => PySem.W.InstAt h x ox D od) :=
  PySem.W.kitx_exc (by obtain ⟨cd, hc, _⟩ := PySem.W.any_some C.hd; rw [hc]; rfl) C.hg C.hk C.hs C.ha C.hn C.ht C.hm
def heldD (H : Hp) (d : Option Addr) : Prop := d = none ∨ ∃ dd fs, d = some dd ∧ H dd = some (.xd fs)
def rIsX (K : PySem.W.Frag) (D a : Addr) (d : Option Addr) : List V → Hp → VK → Prop := fun xs H Q => ∃ (c : V) (cv : Value) (b : Bool), xs = [.ref a, c] ∧ ClsV c cv ∧ ExcC K D ∧ PySem.W.kitOne K (.ref D) cv = some b ∧ heldD H d ∧ Q (.bl b) H
theorem call_isX {X : Cx} {a D : Addr} {oe : Obj} {d : Option Addr} {pn : List (Addr × Obj)} (hz : Zc (.ref D) d oe) (hf : ∃ vs, oe.data = .fields vs) : CallR (X.suite a ((a, oe) :: pn)) (.builtin "isinstance") (rIsX X.K D a d) := by
  intro pins s σ H xs us Q I r h
  obtain ⟨c, cv, b, rfl, hcv, C, e, hd, q⟩ := h
  obtain ⟨u1, u2, rfl, r1, r2⟩ := vals2 r
  cases (show u1 = Value.ref a from r1)
  have ec := hcv.eq r2
  subst ec
  obtain ⟨od, J⟩ := inst_of I hz hf hd
  exact PySem.W.kia_one (kit_exc C) I.kIn J e (fun z => nomatch z) fun tk => ⟨.bl b, H, I.tok tk, rfl, q⟩
def rIsXT (K : PySem.W.Frag) (D a : Addr) (d : Option Addr) : List V → Hp → VK → Prop := fun xs H Q => ∃ (tp : Addr) (cs : List V) (us : List Value) (b : Bool), xs = [.ref a, .ref tp] ∧ H tp = some (.tup cs) ∧ Paired ClsV cs us ∧ ExcC K D ∧ PySem.W.kitAny K (.ref D) us = some b ∧ heldD H d ∧ Q (.bl b) H
theorem call_isXT {X : Cx} {a D : Addr} {oe : Obj} {d : Option Addr} {pn : List (Addr × Obj)} (hz : Zc (.ref D) d oe) (hf : ∃ vs, oe.data = .fields vs) : CallR (X.suite a ((a, oe) :: pn)) (.builtin "isinstance") (rIsXT X.K D a d) := by
  intro pins s σ H xs us Q I r h
  obtain ⟨tp, cs, ws, b, rfl, hT, k, C, e, hd, q⟩ := h
  obtain ⟨u1, u2, rfl, r1, r2⟩ := vals2 r
  cases (show u1 = Value.ref a from r1)
  cases (show u2 = Value.ref tp from r2)
  obtain ⟨od, J⟩ := inst_of I hz hf hd
  obtain ⟨_, its, rv, o, h1, h2, n, h3⟩ := (show ObjOk X.prog X.w H s.heap tp (.tup cs) from I.hok tp _ hT)
  have e3 := ClsV.all k rv
  subst e3
  obtain ⟨oc, od', dt, sl⟩ := o
  simp only at h2 h3
  subst h2 h3
  exact PySem.W.kia_tup (kit_exc C) I.kIn J h1 e (fun z => nomatch z) fun tk => ⟨.bl b, H, I.tok tk, rfl, q⟩
/-- names of classes -/
structure DC (X : Cx) (e : Expr) (n : Str) : Prop where
  pe : ∃ c, PE X e (tC c) ∧ ClsV c (cvK X.K n)
structure DCs (X : Cx) (es : List Expr) (ns : List Str) : Prop where
  pa : ∃ cs, PA X es (fun _ H Q => Q cs H) ∧ Paired ClsV cs (ns.map (cvK X.K))
section
variable {X : Cx} {n x : Str} {pos p : Pos} {e : Expr} {es : List Expr} {ns : List Str}
theorem dc_own (hg : Gl X n) (hm : X.mg n = some (.ref (He.ga X.K n))) (hd : (n == ("__debug__" : Str)) = false := by decide) (hb : btV n = none := by decide +kernel) : DC X (.Name n pos) n := ⟨.ref (He.ga X.K n), pe_glob hg hm rfl hd, by
  unfold cvK
  rw [hb]
  exact .own _⟩
theorem dc_bt {t : String} (hg : Gl X n) (hm : X.mg n = none) (hv : bootBuiltins n = some (.type t)) (hb : btV n = some (.type t)) (hn : n ≠ "__name__" := by decide) (hd : (n == ("__debug__" : Str)) = false := by decide) : DC X (.Name n pos) n := ⟨.ty t, pe_bltn hg hm hv rfl hn hd, by
  unfold cvK
  rw [hb]
  exact .ty t⟩
theorem dcs_nil : DCs X [] [] := ⟨[], pa_imp (t := tNil) pa_nil fun _ _ _ w => w, .nil⟩
theorem dcs_cons (h1 : DC X e n) (h2 : DCs X es ns) (hs : starEach (e :: es) X.env = (false, eval e X.env) :: starEach es X.env := by rfl) : DCs X (e :: es) (n :: ns) := by
  obtain ⟨c, p1, k1⟩ := h1.pe
  obtain ⟨cs, p2, k2⟩ := h2.pa
  exact ⟨c :: cs, pa_imp (pa_cons p1 p2 hs) fun _ _ _ w => w, .cons k1 k2⟩
end
theorem held_of {K : PySem.W.Frag} {H : Hp} {h : MH} {y : DExc} {cls : Value} {d : Option Addr} {xs : List Addr} {T : List (Addr × Str)} (r : RX K (G0 xs T) H h y cls d) : heldD H d := by
  rcases r.2 with ⟨e, _⟩ | ⟨dd, vs, e, f, _⟩
  · exact .inl e
  · exact .inr ⟨dd, vs, e, (Fz.to f).1⟩
def dIsX (kt : Str → Str → Option Bool) (i : Nat) (a : Addr) (y : DExc) (n : Str) : DTE := fun σ h Q => slot σ i = some (.own a) ∧ match kt y.cls n with
  | some b => Q (.d (.bool b)) h
  | none => False
def dIsXT (kt : Str → Str → Option Bool) (i : Nat) (a : Addr) (y : DExc) (n : Str) (ns : List Str) : DTE := fun σ h Q => slot σ i = some (.own a) ∧ (kt y.cls n).isSome = true ∧ (ns.length + 1 ≤ sizeLine) ∧ match anyK kt y.cls (n :: ns) with
  | some b => Q (.d (.bool b)) h
  | none => False
def dXf (xt : Str → Str → Bool) (i : Nat) (a : Addr) (y : DExc) (f : Str) : DTE := fun σ h Q => slot σ i = some (.own a) ∧ xt y.cls f = true ∧ match y.fs.lookup f with
  | some d => Q (.d d) h
  | none => False
theorem own_at {K : PySem.W.Frag} {H : Hp} {h : MH} {σd : DSt} {σ : L2.St} {i : Nat} {a : Addr} (rs : RSt K Γ H h σd σ) (e : slot σd i = some (.own a)) : σ[i]? = some (some (.ref a)) := by
  obtain ⟨v, e1, e2⟩ := rs.2 i _ (slot_get e)
  cases (show v = V.ref a from e2)
  exact e1
section
variable {X : Cx} {Γ1 : GI} {kt : Str → Str → Option Bool} {xt : Str → Str → Bool} {a : Addr} {oe : Obj} {y : DExc} {d : Option Addr} {pn : List (Addr × Obj)} {x n f : Str} {pos p p1 p2 : Pos} {c e : Expr} {es : List Expr} {ns : List Str}
theorem de_isX (i : Nat) (T : KitE X.K kt xt) (hz : Zc (.ref (He.ga X.K y.cls)) d oe) (hf : ∃ vs, oe.data = .fields vs) (hg : Gl (X.suite a ((a, oe) :: pn)) "isinstance") (hm : X.mg "isinstance" = none) (hc : DC (X.suite a ((a, oe) :: pn)) c n)
    (hN : X.N[i]? = some x := by rfl) (hv : Vis X.env.scope x := by first | exact Or.inl rfl | exact Or.inr (Or.inl rfl) | exact Or.inr (Or.inr rfl)) (hd : (x == ("__debug__" : Str)) = false := by decide) (hcd : (x == ("__classdict__" : Str)) = false := by decide)
    (he : starEach [.Name x p1, c] X.env = (false, eval (.Name x p1) X.env) :: starEach [c] X.env := by rfl) (he2 : starEach [c] X.env = (false, eval c X.env) :: starEach [] X.env := by rfl) (hpl : (backTo pos (starEach [c] X.env)).any (·.1) = false := by rfl) :
    DE (X.suite a ((a, oe) :: pn)) (Γ1.exc X.K y (.ref (He.ga X.K y.cls)) d) (.Call (.Name "isinstance" p) [.Name x p1, c] [] pos) (dIsX kt i a y n) := by
  obtain ⟨v, pc, k⟩ := hc.pe
  refine ⟨fun σ h Q Q' kq w => ⟨w.1, ?_⟩, pe_imp (pe_callB (call_isX hz hf) hg hm rfl (pa_cons (pe_var (X := X.suite a ((a, oe) :: pn)) hN hv hd hcd) (pa_cons pc pa_nil he2) he) (by decide) (by decide) he hpl) fun σ H Q ⟨σd, h, rs, rm, w0, w⟩ => ?_⟩
  · have w2 := w.2
    split at w2
    · exact kq _ _ w2
    · exact w2
  · split at w
    · rename_i b e
      exact ⟨.ref a, own_at rs w0, v, _, b, rfl, k, T.exc _ _ _ e, T.kit _ _ _ e, held_of rm.g.2, w _ _ PX.refl (Dp.bl b) rm⟩
    · exact w.elim
theorem de_isXT {kk} (i : Nat) (T : KitE X.K kt xt) (hz : Zc (.ref (He.ga X.K y.cls)) d oe) (hf : ∃ vs, oe.data = .fields vs) (hg : Gl (X.suite a ((a, oe) :: pn)) "isinstance") (hm : X.mg "isinstance" = none) (hc : DCs (X.suite a ((a, oe) :: pn)) es (n :: ns))
    (hN : X.N[i]? = some x := by rfl) (hv : Vis X.env.scope x := by first | exact Or.inl rfl | exact Or.inr (Or.inl rfl) | exact Or.inr (Or.inr rfl)) (hd : (x == ("__debug__" : Str)) = false := by decide) (hcd : (x == ("__classdict__" : Str)) = false := by decide)
    (he : starEach [.Name x p1, .Tuple es kk p2] X.env = (false, eval (.Name x p1) X.env) :: starEach [.Tuple es kk p2] X.env := by rfl) (he2 : starEach [.Tuple es kk p2] X.env = (false, eval (.Tuple es kk p2) X.env) :: starEach [] X.env := by rfl) (hpl : (backTo pos (starEach [.Tuple es kk p2] X.env)).any (·.1) = false := by rfl) :
    DE (X.suite a ((a, oe) :: pn)) (Γ1.exc X.K y (.ref (He.ga X.K y.cls)) d) (.Call (.Name "isinstance" p) [.Name x p1, .Tuple es kk p2] [] pos) (dIsXT kt i a y n ns) := by
  obtain ⟨vs, pc, k⟩ := hc.pa
  refine ⟨fun σ h Q Q' kq w => ⟨w.1, w.2.1, w.2.2.1, ?_⟩, pe_imp (pe_callB (call_isXT hz hf) hg hm rfl (pa_cons (pe_var (X := X.suite a ((a, oe) :: pn)) hN hv hd hcd) (pa_cons (pe_tup pc) pa_nil he2) he) (by decide) (by decide) he hpl) fun σ H Q ⟨σd, h, rs, rm, w0, w1, w3, w⟩ => ?_⟩
  · have w2 := w.2.2.2
    split at w2
    · exact kq _ _ w2
    · exact w2
  · split at w
    · rename_i b e
      obtain ⟨b1, e1⟩ := Option.isSome_iff_exists.mp w1
      have hl : vs.length = ns.length + 1 := by
        have z := k.length
        rw [List.length_map] at z
        exact z
      refine ⟨.ref a, own_at rs w0, by rw [hl]; exact w3, fun q hq => ?_⟩
      refine ⟨q, vs, _, b, rfl, upd_same, k, T.exc _ _ _ e1, T.any e, ?_, w _ _ (rm.px hq) (Dp.bl b) (RM.new hq rm)⟩
      rcases held_of rm.g.2 with z | ⟨dd, fs, z1, z2⟩
      · exact .inl z
      · exact .inr ⟨dd, fs, z1, by rw [upd_ne fun z => by rw [z, hq] at z2; cases z2]; exact z2⟩
    · exact w.elim
theorem paired_look {K : PySem.W.Frag} {F : Hp} {f : Str} {dv : PyData} : ∀ {fs : List (Str × PyData)} {vs : List (Str × V)}, Paired (fun (p : Str × PyData) (q : Str × V) => p.1 = q.1 ∧ Dp K F q.2 p.2) fs vs → fs.lookup f = some dv → ∃ v, vs.lookup f = some v ∧ Dp K F v dv
  | _, _, .nil, h => by cases h
  | (a, b) :: _, (c, e) :: _, .cons z t, h => by
    obtain ⟨z1, z2⟩ := z
    dsimp only at z1 z2
    subst z1
    by_cases q : (f == a) = true
    · simp only [List.lookup, q] at h ⊢
      cases h
      exact ⟨_, rfl, z2⟩
    · have q' : (f == a) = false := by simpa using q
      simp only [List.lookup, q'] at h ⊢
      exact paired_look t h
theorem de_xf (i : Nat) (T : KitE X.K kt xt) (hz : Zc (.ref (He.ga X.K y.cls)) d oe) (hf : ∃ vs, oe.data = .fields vs) (hN : X.N[i]? = some x := by rfl) (hv : Vis X.env.scope x := by first | exact Or.inl rfl | exact Or.inr (Or.inl rfl) | exact Or.inr (Or.inr rfl)) (hd : (x == ("__debug__" : Str)) = false := by decide) (hcd : (x == ("__classdict__" : Str)) = false := by decide)
    (hb : attributeBase (.Name x p1) f X.env (eval (.Name x p1) X.env) = eval (.Name x p1) X.env := by rfl) :
    DE (X.suite a ((a, oe) :: pn)) (Γ1.exc X.K y (.ref (He.ga X.K y.cls)) d) (.Attribute (.Name x p1) f pos) (dXf xt i a y f) := by
  refine ⟨fun σ h Q Q' kq w => ⟨w.1, w.2.1, ?_⟩, ?_⟩
  · have w2 := w.2.2
    split at w2
    · exact kq _ _ w2
    · exact w2
  · by_cases hx : xt y.cls f = true
    · obtain ⟨T1, T2⟩ := T.xf _ _ hx
      refine pe_imp (pe_xf T1 T2 hz hf (pe_var (X := X.suite a ((a, oe) :: pn)) hN hv hd hcd) hb) fun σ H Q ⟨σd, h, rs, rm, w0, _, w⟩ => ?_
      split at w
      · rename_i dv e
        refine ⟨.ref a, own_at rs w0, rfl, rfl, ?_⟩
        rcases rm.g.2.2 with ⟨_, z⟩ | ⟨dd, vs, z1, z2, z3⟩
        · rw [z] at e; cases e
        · obtain ⟨v, e1, e2⟩ := paired_look z3 e
          exact ⟨dd, vs, v, z1, (Fz.to z2).1, e1, w v H PX.refl e2 rm⟩
      · exact w.elim
    · exact ⟨fun pins s σ H Q I ⟨σd, h, rs, rm, w0, w1, w⟩ => absurd w1 hx⟩
end
end DL

namespace DL
open PySem PySem.Spec PyProof.Rows L2
set_option autoImplicit true

/-! ## the law's own error classes, asked of the written part -/
def clsB (K : PySem.W.Frag) (C : Addr) (bmB : List Value) (newId : String) : Bool := match K.lookup C with
  | some ⟨.type "type", _, .cls cd, sl⟩ => (match cd.mro, sl.toList with
    | .ref C' :: bm, [_, _, _, _, some (.builtin n), _] => C' == C && (n == newId && (!cd.hasDel && (cd.hasDict && PySem.W.excTail bmB bm)))
    | _, _ => false)
  | _ => false
theorem clsB_ok {K : PySem.W.Frag} {C : Addr} {bmB : List Value} {newId : String} (q : clsB K C bmB newId = true) : ∃ nm q N bs bm sn sub ab col dd k0 k1 k2 k3 k5, K.lookup C = some (PySem.excClassObj nm q C N bs bm true sn sub ab col dd k0 k1 k2 k3 k5 newId) ∧ PySem.W.excTail bmB bm = true := by
  unfold clsB at q
  split at q
  · rename_i dd cd sl ho
    split at q
    · rename_i C' bm k0 k1 k2 k3 n k5 hm hs
      simp only [Bool.and_eq_true, beq_iff_eq, Bool.not_eq_true'] at q
      obtain ⟨rfl, rfl, hdel, hd0, ht⟩ := q
      obtain ⟨nm, bs, mro, ns, qn, hd, sn, sub, ab, col, del⟩ := cd
      dsimp only at hm hdel hd0
      subst hm hdel hd0
      have hsl : sl = #[k0, k1, k2, k3, some (.builtin n), k5] := by
        obtain ⟨l⟩ := sl
        simp only at hs
        rw [hs]
      subst hsl
      exact ⟨nm, qn, ns, bs, bm, sn, sub, ab, col, dd, k0, k1, k2, k3, k5, ho, ht⟩
    · cases q
  · cases q
def fcB (K : PySem.W.Frag) (Cb : Addr) (initId : String) : Bool := match PySem.W.findCls K (.ref Cb) (.type "type") "__init__" with
  | some (.val (.builtin i)) => i == initId
  | _ => false
theorem fcB_ok {K : PySem.W.Frag} {Cb : Addr} {initId : String} (q : fcB K Cb initId = true) : PySem.W.findCls K (.ref Cb) (.type "type") "__init__" = some (.val (.builtin initId)) := by
  unfold fcB at q
  split at q
  · rename_i i e
    rw [e, beq_iff_eq.mp q]
  · cases q
def errB (K : PySem.W.Frag) (x base : Str) (fs : List Str) (bmB : List Value) (newId initId : String) : Bool :=
  clsB K (He.ga K x) bmB newId && (PySem.W.excOver K (He.ga K x) bmB && (decide (PySem.W.findIn K (.ref (He.ga K x)) "__setattr__" = some (some (.builtin "object.__setattr__"))) && (decide (PySem.W.findIn K (.ref (He.ga K x)) "__getattribute__" = some (some (.builtin "BaseException.__getattribute__"))) &&
  (decide (PySem.W.findIn K (.ref (He.ga K x)) "__getattr__" = some none) && (fs.all (fun f => decide (PySem.W.takerIn K (He.ga K x) f = some none) && decide (PySem.W.findIn K (.ref (He.ga K x)) f = some none)) && (decide (PySem.W.findIn K (.ref (He.ga K x)) "__init__" = some (some (.ref (He.ma K (He.ga K x) "__init__")))) &&
  (decide (PySem.W.typeIn K (.ref (He.ma K (He.ga K x) "__init__")) = some (.type "function")) && (PySem.W.keepIn K (.ref (He.ga K x)) && (decide (PySem.W.subIn K (.ref (He.ga K x)) (.type "BaseException") = some true) && (decide (PySem.W.typeIn K (.ref (He.ga K x)) = some (.type "type")) &&
  (PySem.W.hasDictIn K (He.ga K x) && (PySem.W.readsIn K (He.ga K base) (.type "type") && (decide (PySem.W.specialIn K (.ref (He.ga K base)) "__getattribute__" = some (some (.builtin "type.__getattribute__"))) && fcB K (He.ga K base) initId)))))))))))))
theorem errB_ok {K : PySem.W.Frag} {mg : Str → Option Value} {x base : Str} {fs : List Str} {B newId initId : String} {bmB : List Value} (FB : PySem.ExcBaseFacts B newId initId bmB) (SF : PySem.StoreFacts B bmB "object.__setattr__" "object") (hI : PySem.W.handedIn (.builtin initId) = true)
    (gC : mg x = some (.ref (He.ga K x))) (gB : mg base = some (.ref (He.ga K base))) (h : errB K x base fs bmB newId initId = true) : ErrC K mg x base (He.ga K x) (He.ga K base) (He.ma K (He.ga K x) "__init__") fs B newId initId bmB := by
  unfold errB at h
  simp only [Bool.and_eq_true, decide_eq_true_eq, List.all_eq_true] at h
  obtain ⟨h1, h2, h3, h4, h5, h6, h7, h8, h9, h10, h11, h12, h13, h14, h15⟩ := h
  exact ⟨gC, gB, clsB_ok h1, FB, SF, h2, h3, h4, h5, fun f hf => (h6 f hf).1, fun f hf => (h6 f hf).2, h7, h8, h9, h10, h11, h12, h13, h14, hI, fcB_ok h15⟩
/-- an own error class with one field -/
def Err1 (K : PySem.W.Frag) (mg : Str → Option Value) (x f : Str) : Prop := ∃ (base : Str) (Cb fI : Addr) (B newId initId : String) (bmB : List Value), ErrC K mg x base (He.ga K x) Cb fI [f] B newId initId bmB ∧ Init1 K mg (He.ga K x) fI f
theorem ds_raiseE {X : Cx} {x f : Str} {a : Expr} {t : DTA} {E : DXS} {p pos pos2 : Pos} {k : Nat} (hc : X.calm = true) (T : Err1 X.K X.mg x f) (hr : Room k X.A) (tk : Takes X (liftX X.K Γ E)) (ha : DA X Γ [a] t) (hg : Gl X x := by rfl) (hdb : (x == ("__debug__" : Str)) = false := by decide)
    (he : starEach (a :: []) X.env = (false, eval a X.env) :: starEach [] X.env := by rfl) (hpl : (backTo pos (starEach [] X.env)).any (·.1) = false := by rfl) :
    DS X Γ (.Raise (some (.Call (.Name x p) [a] [] pos)) none pos2) (dRaise1 E x f t) := by
  obtain ⟨base, Cb, fI, B, newId, initId, bmB, T1, T2⟩ := T
  exact ds_raise1 hc T1 T2 hr tk ha hg hdb he hpl
theorem names_own {X : Cx} {x : Str} (hm : X.mg x = some (.ref (He.ga X.K x))) (hg : Gl X x := by rfl) (hd : (x == ("__debug__" : Str)) = false := by decide) (hb : btV x = none := by decide +kernel) : Names X x (cvK X.K x) := ⟨hg, hd, .inl (by
  unfold cvK
  rw [hb]
  exact hm)⟩
/-! the asked pairs -/
def ktL (l : List (Str × Str × Bool)) : Str → Str → Option Bool := fun c n => (l.find? fun p => p.1 == c && p.2.1 == n).map (·.2.2)
def xtL (l : List (Str × Str)) : Str → Str → Bool := fun c f => l.any fun p => p.1 == c && p.2 == f
def excB (K : PySem.W.Frag) (D : Addr) : Bool :=
  decide (PySem.W.findIn K (.ref D) "__getattribute__" = some (some (.builtin "BaseException.__getattribute__"))) && (decide (PySem.W.findIn K (.ref D) "__getattr__" = some none) && (decide (PySem.W.subIn K (.ref D) (.type "BaseException") = some true) && (PySem.W.hasDictIn K D &&
  (decide (PySem.W.findIn K (.ref D) "__class__" = some (some (.builtin "object.__class__"))) && (decide (PySem.W.specialIn K (.builtin "object.__class__") "__get__" = some (some (.builtin "getset_descriptor.__get__"))) && (decide (PySem.W.takesIn K (.builtin "object.__class__") = some true) && decide (PySem.W.mroIn K D (.type "object") = some true)))))))
theorem excB_ok {K : PySem.W.Frag} {D : Addr} (h : excB K D = true) : ExcC K D := by
  unfold excB at h
  simp only [Bool.and_eq_true, decide_eq_true_eq] at h
  obtain ⟨h1, h2, h3, h4, h5, h6, h7, h8⟩ := h
  exact ⟨h1, h2, h3, h4, h5, h6, h7, h8⟩
def kitLB (K : PySem.W.Frag) (kl : List (Str × Str × Bool)) (xl : List (Str × Str)) : Bool :=
  kl.all (fun p => excB K (He.ga K p.1) && (decide (PySem.W.exmOne K (.ref (He.ga K p.1)) (cvK K p.2.1) = some p.2.2) && decide (PySem.W.kitOne K (.ref (He.ga K p.1)) (cvK K p.2.1) = some p.2.2))) &&
  xl.all fun p => xfB K (He.ga K p.1) && decide (PySem.W.findIn K (.ref (He.ga K p.1)) p.2 = some none)
theorem kitLB_ok {K : PySem.W.Frag} {kl : List (Str × Str × Bool)} {xl : List (Str × Str)} (h : kitLB K kl xl = true) : KitE K (ktL kl) (xtL xl) := by
  unfold kitLB at h
  obtain ⟨h1, h2⟩ := Bool.and_eq_true_iff.mp h
  have g1 : ∀ c n b, ktL kl c n = some b → ExcC K (He.ga K c) ∧ PySem.W.exmOne K (.ref (He.ga K c)) (cvK K n) = some b ∧ PySem.W.kitOne K (.ref (He.ga K c)) (cvK K n) = some b := fun c n b e => by
    unfold ktL at e
    obtain ⟨p, e1, e2⟩ := Option.map_eq_some_iff.mp e
    have m := List.mem_of_find?_eq_some e1
    have q := List.find?_some e1
    simp only [Bool.and_eq_true, beq_iff_eq] at q
    obtain ⟨rfl, rfl⟩ := q
    subst e2
    have z := List.all_eq_true.mp h1 p m
    simp only [Bool.and_eq_true, decide_eq_true_eq] at z
    exact ⟨excB_ok z.1, z.2.1, z.2.2⟩
  refine ⟨fun c n b e => (g1 c n b e).1, fun c n b e => (g1 c n b e).2.1, fun c n b e => (g1 c n b e).2.2, fun c f e => ?_⟩
  obtain ⟨p, m, q⟩ := List.any_eq_true.mp e
  simp only [Bool.and_eq_true, beq_iff_eq] at q
  obtain ⟨rfl, rfl⟩ := q
  have z := List.all_eq_true.mp h2 p m
  simp only [Bool.and_eq_true, decide_eq_true_eq] at z
  exact ⟨xfB_ok z.1, z.2⟩
/-! ## the head's hook, with the interpreter's statics -/
def asY (g : Addr → Option Obj) (n : Nat) : List Addr := He.asD g n ++ [PySem.cStatics]
abbrev frY (g : Addr → Option Obj) (n : Nat) : PySem.W.Frag := He.frT g (asY g n)
def obsY (n : Nat) (fa : List He.Fa) (fn : List He.DefD) (ts : List He.Tab) (tf : List He.Defn) (ex : PySem.W.Frag → Bool) (g : Addr → Option Obj) : He.AlX :=
  (He.obsT fa fn ts (frY g n), ex (frY g n) && He.tabsB g tf (frY g n))
theorem saysY_of {n : Nat} {fa : List He.Fa} {fn : List He.DefD} {ts : List He.Tab} {tf : List He.Defn} {ex : PySem.W.Frag → Bool} {w : World} {h : Heap} (e : obsY n fa fn ts tf ex h.get? = He.valX fn ts w) : He.SaysX fa fn ts tf ex w h (frY h.get? n) := by
  obtain ⟨K, hK⟩ : ∃ K, K = frY h.get? n := ⟨_, rfl⟩
  have e1 : He.obsT fa fn ts K = He.valT fn ts w := by rw [hK]; exact congrArg (fun z : He.AlX => z.1) e
  have e2 : (ex K && He.tabsB h.get? tf K) = true := by rw [hK]; exact congrArg (fun z : He.AlX => z.2) e
  obtain ⟨h1, h2⟩ := Bool.and_eq_true_iff.mp e2
  have key : ∀ p ∈ tf, PySem.W.codeHdIn K (He.cT K p).1 (He.cT K p).2 = true ∧ ∃ o, h.get? (He.cT K p).2 = some o ∧ He.emptyTab o = true := fun p hp => by
    have z := List.all_eq_true.mp h2 p hp
    obtain ⟨h3, h4⟩ := Bool.and_eq_true_iff.mp z
    refine ⟨h3, ?_⟩
    split at h4
    · rename_i o q
      exact ⟨o, q, h4⟩
    · cases h4
  rw [← hK]
  refine ⟨e1, h1, fun p hp => (key p hp).1, fun p hp => ?_, fun p hp => ?_⟩
  · obtain ⟨_, o, q, z⟩ := key p hp
    have y := He.frT_none (as := asY h.get? n) q z
    rw [hK] at y ⊢
    exact y
  · obtain ⟨_, o, q, z⟩ := key p hp
    rw [q, He.emptyTab_eq z]
def hookY (n : Nat) (fa : List He.Fa) (fn : List He.DefD) (ts : List He.Tab) (tf : List He.Defn) (ex : PySem.W.Frag → Bool) : PySem.W.Hook where
  α := He.AlX
  obs := fun s => obsY n fa fn ts tf ex s.heap.get?
  val := fun w => He.valX fn ts w
  says := (He.hookX n fa fn ts tf ex).says
  of := fun _ _ e => ⟨_, He.frT_in, saysY_of e⟩
  keeps := (He.hookX n fa fn ts tf ex).keeps
theorem obsY_eq {n : Nat} {fa : List He.Fa} {fn : List He.DefD} {ts : List He.Tab} {tf : List He.Defn} {ex : PySem.W.Frag → Bool} {g : Addr → Option Obj} {s : Shared} (h : ∀ a, g a = s.heap.get? a) : obsY n fa fn ts tf ex g = (hookY n fa fn ts tf ex).obs s := by
  obtain rfl : g = s.heap.get? := funext h
  rfl
/-- THE LAW'S WALK, by hookY -/
theorem walk_gY {l : PySem.W.OpenLaw} {n m k : Nat} {q : Program} {loose : List Str} {XP : (Str → Option Value) → Heap → Prop} {d : DefRec} {x : Str} {fas : List He.Fa} {fns : List He.DefD} {tf : List He.Defn} {nm : He.Defn → Str} {ex : PySem.W.Frag → Bool} {W : DSp}
    (hn : l.most = some n) (hn2 : n ≤ sizeLine) (hdf : d.params.defaults = []) (hr : Room k callerA)
    (F : ∀ (w : World) (mg : Str → Option Value) (fa : Addr) (h : Heap) (K : PySem.W.Frag), K.In h → h.Ns mainGlobals mg → mg d.name = some (.ref fa) → He.SaysX fas fns [] tf ex w h K →
      ∃ fd : FuncData, (∀ (s : Shared) (u : Value), BindsTo s fd ⟨[u], []⟩ [(x, u)]) ∧ ∀ base : Heap, K.In base → base.Ns mainGlobals mg → (∀ c ∈ tf.map (He.cT K), LamX.TabB base mg c.1 c.2) → FnG l.prog w K mg base (tabsT K tf nm) k fa fd [x] W)
    (hw : ∀ ns : List Int, ns.length ≤ n → (∀ z ∈ ns, Builtin.Int.intBits z ≤ 1048576) → W [.d (.list (ns.map PyData.int))] (fun _ => none) (fun r _ => r = .d (.bool true)) fun _ _ => False) :
    PySem.W.WalkO q loose XP (hookY m fas fns [] tf ex).says l.row.toRowW d [] (fun f vs => PySem.call f vs) := walk_g (m := m) (nm := nm) hn hn2 hdf hr F hw
end DL

namespace DL
open PySem PySem.Spec PyProof.Rows L2
set_option autoImplicit true

/-! ## in, not in: tuples and lists of flat items -/
def flatD : PyData → Bool
  | .none => true
  | .bool _ => true
  | .int _ => true
  | .str _ => true
  | _ => false
theorem flat_ok {K : PySem.W.Frag} {F : Hp} {v : V} {d : PyData} (r : Dp K F v d) (f : flatD d = true) : flatV v = true := by
  cases d <;> first | (cases f; done) | (cases r; rfl)
theorem flat_eq {K : PySem.W.Frag} {F : Hp} {v u : V} {d e : PyData} (r1 : Dp K F v d) (r2 : Dp K F u e) (f1 : flatD d = true) (f2 : flatD e = true) : eqV v u = PyData.eqv d e := by
  cases d <;> cases e <;> first | (cases f1; done) | (cases f2; done) | (cases r1; cases r2; simp [eqV, PyData.eqv])
theorem flats_ok {K : PySem.W.Frag} {F : Hp} {x : V} {d : PyData} (rx : Dp K F x d) (fx : flatD d = true) : ∀ {vs : List V} {ds : List PyData}, DpAll K F vs ds → ds.all flatD = true → vs.all flatV = true ∧ inV x vs = ds.any fun z => PyData.eqv z d
  | _, _, .nil, _ => ⟨rfl, rfl⟩
  | _, _, .cons r t, f => by
    rw [List.all_cons, Bool.and_eq_true] at f
    obtain ⟨h1, h2⟩ := flats_ok rx fx t f.2
    refine ⟨by rw [List.all_cons, flat_ok r f.1, h1]; rfl, ?_⟩
    unfold inV at h2 ⊢
    rw [List.any_cons, List.any_cons, h2, flat_eq r rx f.1 fx]
def rdInF : DR2 := fun x y h Q => match asD h x, asQ h y with
  | some d, some ds => flatD d = true ∧ ds.all flatD = true ∧ Q (.d (.bool (ds.any fun z => PyData.eqv z d))) h
  | _, _ => False
def rdNotInF : DR2 := fun x y h Q => match asD h x, asQ h y with
  | some d, some ds => flatD d = true ∧ ds.all flatD = true ∧ Q (.d (.bool (!ds.any fun z => PyData.eqv z d))) h
  | _, _ => False
theorem lr_inF {K : PySem.W.Frag} : LR2 K Γ rdInF (rIn K false) := by
  refine ⟨fun x y h Q Q' k w => ?_, fun x y v u H h C' Q rv ru rm w k => ?_⟩
  · unfold rdInF at w ⊢
    split at w
    · exact ⟨w.1, w.2.1, k _ _ w.2.2⟩
    · exact w
  · unfold rdInF at w
    split at w
    · rename_i d ds e1 e2
      have dv := asD_ok rv rm e1
      obtain ⟨a, vs, rfl, hq, dds⟩ := asQ_ok ru rm e2
      have dv' : DpAll K H vs ds := dps_up fz_sub _ _ dds
      obtain ⟨h1, h2⟩ := flats_ok dv w.1 dv' w.2.1
      refine ⟨a, vs, rfl, hq, flat_ok dv w.1, h1, ?_⟩
      rw [if_neg (by decide), h2]
      exact k _ _ _ H PX.refl rv_bl rm w.2.2
    · exact w.elim
theorem lr_notInF {K : PySem.W.Frag} : LR2 K Γ rdNotInF (rIn K true) := by
  refine ⟨fun x y h Q Q' k w => ?_, fun x y v u H h C' Q rv ru rm w k => ?_⟩
  · unfold rdNotInF at w ⊢
    split at w
    · exact ⟨w.1, w.2.1, k _ _ w.2.2⟩
    · exact w
  · unfold rdNotInF at w
    split at w
    · rename_i d ds e1 e2
      have dv := asD_ok rv rm e1
      obtain ⟨a, vs, rfl, hq, dds⟩ := asQ_ok ru rm e2
      have dv' : DpAll K H vs ds := dps_up fz_sub _ _ dds
      obtain ⟨h1, h2⟩ := flats_ok dv w.1 dv' w.2.1
      refine ⟨a, vs, rfl, hq, flat_ok dv w.1, h1, ?_⟩
      rw [if_pos rfl, h2]
      exact k _ _ _ H PX.refl rv_bl rm w.2.2
    · exact w.elim
end DL

namespace DL
open PySem PySem.Spec PyProof.Rows L2
set_option autoImplicit true

/-! ## calls by keywords, calls that leave defaults out -/
/-- which of the left out ones (false), of the keywords' (true) -/
def pick {α : Type} : List (Bool × Nat) → List α → List α → List α
  | [], _, _ => []
  | (b, i) :: r, ms, ws => match (if b = true then ws else ms)[i]? with
    | some x => x :: pick r ms ws
    | none => pick r ms ws
theorem paired_at {α β : Type} {R : α → β → Prop} : ∀ {xs : List α} {ys : List β} {i : Nat}, Paired R xs ys → (xs[i]? = none ∧ ys[i]? = none) ∨ ∃ x y, xs[i]? = some x ∧ ys[i]? = some y ∧ R x y
  | _, _, _, .nil => .inl ⟨rfl, rfl⟩
  | _, _, 0, .cons r _ => .inr ⟨_, _, rfl, rfl, r⟩
  | _, _, i + 1, .cons _ t => by
    rcases paired_at (i := i) t with ⟨e1, e2⟩ | ⟨x, y, e1, e2, r⟩
    · exact .inl ⟨by simpa using e1, by simpa using e2⟩
    · exact .inr ⟨x, y, by simpa using e1, by simpa using e2, r⟩
theorem paired_app {α β : Type} {R : α → β → Prop} : ∀ {xs zs : List α} {ys us : List β}, Paired R xs ys → Paired R zs us → Paired R (xs ++ zs) (ys ++ us)
  | _, _, _, _, .nil, q => q
  | _, _, _, _, .cons r t, q => .cons r (paired_app t q)
theorem pick_paired {α β : Type} {R : α → β → Prop} {ms zs : List α} {mv ws : List β} (h1 : Paired R ms mv) (h2 : Paired R zs ws) : ∀ cs : List (Bool × Nat), Paired R (pick cs ms zs) (pick cs mv ws)
  | [] => .nil
  | (b, i) :: r => by
    have ih := pick_paired h1 h2 r
    unfold pick
    cases b with
    | true =>
      rw [if_pos rfl, if_pos rfl]
      rcases paired_at (i := i) h2 with ⟨e1, e2⟩ | ⟨x, y, e1, e2, q⟩
      · rw [e1, e2]; exact ih
      · rw [e1, e2]; exact .cons q ih
    | false =>
      rw [if_neg (by decide), if_neg (by decide)]
      rcases paired_at (i := i) h1 with ⟨e1, e2⟩ | ⟨x, y, e1, e2, q⟩
      · rw [e1, e2]; exact ih
      · rw [e1, e2]; exact .cons q ih
/-- a default that is no object -/
def cvV : PyData → V
  | .bool b => .bl b
  | .int i => .int i
  | _ => .non
def cvOk : PyData → Bool
  | .none => true
  | .bool _ => true
  | .int _ => true
  | _ => false
theorem cv_ok {K : PySem.W.Frag} {F : Hp} {d : PyData} (c : cvOk d = true) : Dp K F (cvV d) d := by
  cases d <;> first | (cases c; done) | exact .non | exact .bl _ | exact .int _
theorem cvs_ok {K : PySem.W.Frag} {Γ : GI} {H : Hp} {h : MH} : ∀ {dm : List PyData}, dm.all cvOk = true → RVs K Γ H h (dm.map SV.d) (dm.map cvV)
  | [], _ => .nil
  | d :: dm, c => by
    rw [List.all_cons, Bool.and_eq_true] at c
    exact .cons (cv_ok c.1) (cvs_ok c.2)
/-- a def's calling shape: n values by their places, keywords ks, the others by their defaults dm -/
structure Shape where
  n : Nat
  ks : List Str
  dm : List PyData
  cs : List (Bool × Nat)
def FnK (P : Program) (w : World) (K : PySem.W.Frag) (mg : Str → Option Value) (base : Heap) (T : List (Addr × Str)) (k : Nat) (x : Str) (ps : List Str) (z : Shape) (W : DSp) : Prop :=
  ∃ f fd mv, FnG P w K mg base T k f fd ps W ∧ PySem.W.keepIn K (.ref f) = true ∧ KBn K fd ps z.n z.ks (fun us ws => us ++ pick z.cs mv ws) (fun vs zs => vs ++ pick z.cs (z.dm.map cvV) zs) ∧ mg x = some (.ref f)
theorem FnK.up {P : Program} {w : World} {K : PySem.W.Frag} {mg : Str → Option Value} {base : Heap} {T : List (Addr × Str)} {j k : Nat} {x : Str} {ps : List Str} {z : Shape} {W : DSp} (F : FnK P w K mg base T j x ps z W) (h : j ≤ k) : FnK P w K mg base T k x ps z W := by
  obtain ⟨f, fd, mv, a, b⟩ := F
  exact ⟨f, fd, mv, a.up h, b⟩
def dCallK (E : DXS) (W : DSp) (z : Shape) (t tk : DTA) : DTE := fun σ h Q => t σ h fun xs h1 => tk σ h1 fun zs h2 => xs.length = z.n ∧ zs.length = z.ks.length ∧ W (xs ++ pick z.cs (z.dm.map SV.d) zs) h2 Q fun x h3 => E x σ h3
section
variable {X : Cx} {k : Nat} {ps : List Str} {W : DSp} {E : DXS} {x : Str} {p pos : Pos} {e : Expr} {es : List Expr} {kws : List Keyword} {t tk : DTA} {T : List (Addr × Str)} {z : Shape}
structure DKw (X : Cx) (Γ : GI) (kws : List Keyword) (t : DTA) : Prop where
  mono : Mono t
  pk : PK X kws (liftA X.K Γ t)
theorem pk_imp {kws : List Keyword} {t t' : TA} (p : PK X kws t) (k : ∀ σ H Q, t' σ H Q → t σ H Q) : PK X kws t' := ⟨fun pos pins s σ H Q I w => p.run pos pins s σ H Q I (k σ H Q w)⟩
theorem dk_nil : DKw X Γ [] dNil := ⟨fun _ _ _ _ k w => k _ _ w, pk_imp pk_nil fun σ H Q ⟨σd, h, rs, rm, w⟩ => w _ _ PX.refl .nil rm⟩
theorem dk_cons {te : DTE} {nm : Option Str} {kpos : Pos} (ha : DE X Γ e te) (hr : DKw X Γ kws t) : DKw X Γ (⟨nm, e, kpos⟩ :: kws) (dCons te t) :=
  ⟨mono_cons ha.mono hr.mono, pk_imp (pk_cons ha.pe hr.pk) fun σ H Q ⟨σd, h, rs, rm, w⟩ =>
    lift_mk ha.mono rs rm w fun x h1 v H1 px rs1 rv rm1 w1 => lift_mk hr.mono rs1 rm1 w1 fun xs h2 vs H2 px2 rs2 rvs rm2 w2 =>
      w2 _ _ (px.trans px2) (.cons (rv.up px2) rvs) rm2⟩
theorem mono_callK (m : Mono t) (m2 : Mono tk) (mw : MonoW W) : Mono (dCallK E W z t tk) := fun σ h Q Q' k w => m _ _ _ _ (fun xs h1 w1 => m2 _ _ _ _ (fun zs h2 w2 => ⟨w2.1, w2.2.1, mw _ _ _ _ _ _ k (fun _ _ z => z) w2.2.2⟩) w1) w
theorem run_k {f : Addr} {fd : FuncData} {mv : List Value} {pins : List (Addr × Obj)} {σ : L2.St} {H : Hp} {s : Shared} {Q : VK} {us ws : List Value} {vs zvs : List V} {xs zs : List SV} {σd : DSt} {h : MH} {C : DK} (F : FnG X.prog X.w X.K X.mg X.base Γ.T k f fd ps W) (hr : Room k X.A) (hg : X.A.guards = some [])
    (hb : KBn X.K fd ps z.n z.ks (fun us ws => us ++ pick z.cs mv ws) (fun vs zs => vs ++ pick z.cs (z.dm.map cvV) zs)) (cv : z.dm.all cvOk = true) (tk : Takes X (liftX X.K Γ E))
    (I : Inv X pins σ H s) (r : Vals vs us) (rz : Vals zvs ws) (rv : RVs X.K Γ H h xs vs) (rvz : RVs X.K Γ H h zs zvs) (rs : RSt X.K Γ H h σd σ) (rm : RM X.K Γ H h) (l1 : xs.length = z.n) (l2 : zs.length = z.ks.length)
    (hw : W (xs ++ pick z.cs (z.dm.map SV.d) zs) h C fun x h2 => E x σd h2) (k' : ∀ z h' v H', PX Γ H h H' h' → RV X.K Γ H' h' z v → RM X.K Γ H' h' → C z h' → Q v H') :
    wpAny (model X.prog X.w) X.A (call (.ref f) us (z.ks.zip ws)) (EP X pins σ Q) X.xe s := by
  have n1 : us.length = z.n := by rw [← r.length, rvs_len rv]; exact l1
  have n2 : ws.length = z.ks.length := by rw [← rz.length, rvs_len rvz]; exact l2
  have rr := hb.rel r rz
  have rvv : RVs X.K Γ H h (xs ++ pick z.cs (z.dm.map SV.d) zs) (vs ++ pick z.cs (z.dm.map cvV) zvs) := paired_app rv (pick_paired (cvs_ok cv) rvz z.cs)
  have hsp : liftSp X.K Γ.T W (vs ++ pick z.cs (z.dm.map cvV) zvs) H Q (fun cls d H' => liftX X.K Γ E cls d σ H') := ⟨Γ.x, _, h, rvv, rm.g0, F.mono _ _ _ _ _ _ (fun z h' c v H' px rz rm' => k' z h' v H' px rz (rm.back px rm') c)
    (fun x h' ee cls d H' px rx rm' => ⟨x, σd, h', rs.up px, rm.back px rm', rx, ee⟩) hw⟩
  refine wpAny_call (codeAny_mono (F.run X.A X.stack s H ⟨us, z.ks.zip ws⟩ _ _ Q (fun cls d H' => liftX X.K Γ E cls d σ H') hr hg I.env0 (hb.to s us ws I.kIn n1 n2) rr hsp) fun res s' hq => ?_)
  match res, hq with
  | .error ex, hq => exact tk ex s' (XE.of_call I (fun _ _ _ z => z) hq)
  | .ok (.ret u), hq => exact I.after hq
  | .ok .next, hq => exact False.elim hq
  | .ok .brk, hq => exact False.elim hq
  | .ok .cont, hq => exact False.elim hq
/-- f(e, ..): what lacks is told by its default -/
theorem de_fnD (hΓ : Γ.T = T) (F : FnK X.prog X.w X.K X.mg X.base T k x ps z W) (hz : z.ks = []) (cv : z.dm.all cvOk = true) (hr : Room k X.A) (hgd : X.A.guards = some []) (tke : Takes X (liftX X.K Γ E)) (ha : DA X Γ (e :: es) t) (hg : Gl X x := by rfl) (hdb : (x == ("__debug__" : Str)) = false := by decide)
    (he : starEach (e :: es) X.env = (false, eval e X.env) :: starEach es X.env := by rfl) (hpl : (backTo pos (starEach es X.env)).any (·.1) = false := by rfl) : DE X Γ (.Call (.Name x p) (e :: es) [] pos) (dCallK E W z t dNil) := by
  subst hΓ
  obtain ⟨f, fd, mv, G, hk, hb, hm⟩ := F
  refine ⟨mono_callK ha.mono (fun _ _ _ _ k w => k _ _ w) G.mono, ⟨fun pins s σ H Q I w => ?_⟩⟩
  obtain ⟨σd, h, rs, rm, w⟩ := w
  refine wpAny_Call_Name_kw (ld_glob I hg hm ?_ hdb)
  refine PySem.W.callWith_K (h₀ := X.base) I.ok.mod.kin hk (thn (ha.pa.run pos pins s σ H (fun vs H1 => ∃ xs h1, PX Γ H h H1 h1 ∧ RVs X.K Γ H1 h1 xs vs ∧ RSt X.K Γ H1 h1 σd σ ∧ RM X.K Γ H1 h1 ∧ xs.length = z.n ∧ ([] : List SV).length = z.ks.length ∧ W (xs ++ pick z.cs (z.dm.map SV.d) []) h1 (fun z h' => ∀ v H', PX Γ H h H' h' → RV X.K Γ H' h' z v → RM X.K Γ H' h' → Q v H') fun x h2 => E x σd h2) I
    (lift_mk ha.mono rs rm w fun xs h1 vs H1 px rs1 rvs rm1 w1 => ⟨xs, h1, px, rvs, rs1, rm1, w1⟩)) ?_) he hpl
  rintro us s1 ⟨vs, H1, I1, r, xs, h1, px, rvs, rs1, rm1, n1, n2, w1⟩
  have q := run_k (ws := []) (zvs := []) (zs := []) G hr hgd hb cv tke I1 r .nil rvs .nil rs1 rm1 n1 n2 w1 fun z h' v H' px' rz rm' c => c v H' (px.trans px') rz rm'
  rw [hz] at q
  exact ⟨I1.kIn, q⟩
/-- f(e, .., k = v, ..) -/
theorem de_fnKw (hΓ : Γ.T = T) (F : FnK X.prog X.w X.K X.mg X.base T k x ps z W) (cv : z.dm.all cvOk = true) (hr : Room k X.A) (hgd : X.A.guards = some []) (tke : Takes X (liftX X.K Γ E)) (ha : DA X Γ (e :: es) t) (hkw : DKw X Γ kws tk) (hks : (backToKw pos (keywordEach kws X.env)).filterMap (·.1) = z.ks := by rfl)
    (hall : (backToKw pos (keywordEach kws X.env)).all (·.1.isSome) = true := by rfl) (hg : Gl X x := by rfl) (hdb : (x == ("__debug__" : Str)) = false := by decide) (he : starEach (e :: es) X.env = (false, eval e X.env) :: starEach es X.env := by rfl)
    (hpl : ((backTo pos (starEach (e :: es) X.env)).any (·.1) || (backToKw pos (keywordEach kws X.env)).any (·.1.isNone)) = false := by rfl) : DE X Γ (.Call (.Name x p) (e :: es) kws pos) (dCallK E W z t tk) := by
  subst hΓ
  obtain ⟨f, fd, mv, G, hk, hb, hm⟩ := F
  refine ⟨mono_callK ha.mono hkw.mono G.mono, ⟨fun pins s σ H Q I w => ?_⟩⟩
  obtain ⟨σd, h, rs, rm, w⟩ := w
  refine wpAny_Call_Name_kw (ld_glob I hg hm ?_ hdb)
  refine PySem.W.callWith_KW (h₀ := X.base) I.ok.mod.kin hk hall (thn (ha.pa.run pos pins s σ H (fun vs H1 => ∃ xs h1, PX Γ H h H1 h1 ∧ RVs X.K Γ H1 h1 xs vs ∧ RSt X.K Γ H1 h1 σd σ ∧ RM X.K Γ H1 h1 ∧ tk σd h1 fun zs h2 => xs.length = z.n ∧ zs.length = z.ks.length ∧ W (xs ++ pick z.cs (z.dm.map SV.d) zs) h2 (fun z h' => ∀ v H', PX Γ H h H' h' → RV X.K Γ H' h' z v → RM X.K Γ H' h' → Q v H') fun x h2 => E x σd h2) I
    (lift_mk ha.mono rs rm w fun xs h1 vs H1 px rs1 rvs rm1 w1 => ⟨xs, h1, px, rvs, rs1, rm1, w1⟩)) ?_) hpl he
  rintro us s1 ⟨vs, H1, I1, r, xs, h1, px, rvs, rs1, rm1, w1⟩
  refine thn (hkw.pk.run pos pins s1 σ H1 (fun zvs H2 => ∃ zs h2, PX Γ H1 h1 H2 h2 ∧ RVs X.K Γ H2 h2 zs zvs ∧ RSt X.K Γ H2 h2 σd σ ∧ RM X.K Γ H2 h2 ∧ xs.length = z.n ∧ zs.length = z.ks.length ∧ W (xs ++ pick z.cs (z.dm.map SV.d) zs) h2 (fun z h' => ∀ v H', PX Γ H h H' h' → RV X.K Γ H' h' z v → RM X.K Γ H' h' → Q v H') fun x h2 => E x σd h2) I1
    (lift_mk hkw.mono rs1 rm1 w1 fun zs h2 zvs H2 px2 rs2 rvz rm2 w2 => ⟨zs, h2, px2, rvz, rs2, rm2, w2⟩)) ?_
  rintro ws s2 ⟨zvs, H2, I2, rz, zs, h2, px2, rvz, rs2, rm2, n1, n2, w2⟩
  refine ⟨I2.kIn, ?_⟩
  rw [hks]
  exact run_k G hr hgd hb cv tke I2 r rz (rvs_up px2 rvs) rvz rs2 rm2 n1 n2 w2 fun z h' v H' px' rz rm' c => c v H' ((px.trans px2).trans px') rz rm'
end
/-- a def whose parameters behind the first n are keyword-only, its defaults told: from the head's facts -/
theorem fn_k {P : Program} {w : World} {K : PySem.W.Frag} {mg : Str → Option Value} {base : Heap} {T : List (Addr × Str)} {k : Nat} {x : Str} {ps : List Str} {W : DSp} {params : Arguments} {body : List Stmt} {scope : Scope} {f : Addr} {fd : FuncData} {kws : List (Str × V)} {z : Shape} {ms : List (Str × V)}
    (F : FunD K x x params body scope [] kws f fd) (G : FnG P w K mg base T k f fd ps W) (hm : mg x = some (.ref f)) (hk : kws ≠ []) (hms : ∀ q ∈ ms, q ∈ kws) (hd : ms.map (·.2) = z.dm.map cvV)
    (h : ∀ (D : Addr) (doc pm : Value) (an : Option Addr) (cdv ct : Value) (us mv ws : List Value), us.length = z.n → mv.length = ms.length → ws.length = z.ks.length →
      KwChain D ((ms.map (·.1)).zip mv) (bindArgs (PySem.W.fnOf x x params body scope .none (.ref D) doc pm an cdv ct) ⟨us, z.ks.zip ws⟩) (ps.zip (us ++ pick z.cs mv ws))) : FnK P w K mg base T k x ps z W := by
  obtain ⟨mv, hb⟩ := F.kbinds0 z.n z.ks ms (fun us mv ws => us ++ pick z.cs mv ws) hk hms (fun r1 r2 r3 => Vals.append r1 (pick_paired r2 r3 z.cs)) h
  refine ⟨f, fd, mv, G, F.kp, ?_, hm⟩
  have e : (fun (vs zs : List V) => vs ++ pick z.cs (ms.map (·.2)) zs) = fun vs zs => vs ++ pick z.cs (z.dm.map cvV) zs := by rw [hd]
  have hb' : KBn K fd ps z.n z.ks (fun us ws => us ++ pick z.cs mv ws) (fun vs zs => vs ++ pick z.cs (ms.map (·.2)) zs) := hb
  rw [e] at hb'
  exact hb'
/-- such a def, all but its defaults -/
theorem fun_ofK {K : PySem.W.Frag} {x : Str} {st : Stmt} {f : Addr} {fd : FuncData} {kws : List (Str × V)} (F : FunD K x x (defArgs st) (defBody st) (defScope st) [] kws f fd) : Fun K x x st f fd := by
  obtain ⟨oc, od, dV, kV, doc, pm, an, cdv, ct, osl, rfl, lk, hcd, hD, hK⟩ := F.ex
  rcases hD with ⟨_, rfl⟩ | ⟨e, _⟩
  · exact ⟨⟨oc, od, kV, doc, pm, an, cdv, ct, osl, rfl, lk, hcd⟩, F.kp⟩
  · exact absurd rfl e
end DL

namespace DL
open PySem PySem.Spec PyProof.Rows L2
open RZ (ItzT pi_zipA)
set_option autoImplicit true

/-! ## isinstance of data -/
def tyN : PyData → String
  | .none => "NoneType"
  | .bool _ => "bool"
  | .int _ => "int"
  | .str _ => "str"
  | .list _ => "list"
  | .tuple _ => "tuple"
  | .dict _ => "dict"
theorem tyx_of {K : PySem.W.Frag} {H : Hp} {v : V} {d : PyData} (r : Dp K H v d) : TyX K H v (.type (tyN d)) := by
  cases r with
  | non => exact .base .non
  | bl b => exact .base (.bl b)
  | int i => exact .base (.int i)
  | str x => exact .base (.str x)
  | lst h _ =>
    rcases h with (e | ⟨o, e⟩) | ⟨o, its, n, e, c, _⟩
    · exact .base (.lst e)
    · exact .base (.frz e)
    · exact .kList e c
  | tup h _ =>
    rcases h with (e | ⟨o, e⟩) | ⟨o, its, n, e, c, _⟩
    · exact .base (.tup e)
    · exact .fTuple e
    · exact .kTuple e c
def dIsT (te : DTE) (n : String) : DTE := fun σ h Q => te σ h fun x h1 => match asD h1 x with
  | some d => (match kitB (tyN d) n with
    | some b => Q (.d (.bool b)) h1
    | none => False)
  | none => False
section
variable {X : Cx} {e : Expr} {x : Str} {n : String} {p p2 pos : Pos} {te : DTE}
theorem de_isT (he : DE X Γ e te) (hg : Gl X "isinstance") (hm : X.mg "isinstance" = none) (hg2 : Gl X x) (hm2 : X.mg x = none) (hv2 : bootBuiltins x = some (.type n)) (hn : x ≠ "__name__" := by decide) (hd : (x == ("__debug__" : Str)) = false := by decide)
    (he1 : starEach [e, .Name x p2] X.env = (false, eval e X.env) :: starEach [.Name x p2] X.env := by rfl) (he2 : starEach [.Name x p2] X.env = (false, eval (.Name x p2) X.env) :: starEach [] X.env := by rfl) (hpl : (backTo pos (starEach [.Name x p2] X.env)).any (·.1) = false := by rfl) :
    DE X Γ (.Call (.Name "isinstance" p) [e, .Name x p2] [] pos) (dIsT te n) := by
  refine ⟨fun σ h Q Q' k w => he.mono _ _ _ _ (fun y h1 w1 => ?_) w, pe_imp (pe_callB call_isi hg hm rfl (pa_cons he.pe (pa_cons (pe_bltn hg2 hm2 hv2 (v := .ty n) rfl hn hd) pa_nil he2) he1) (by decide) (by decide) he1 hpl) fun σ H Q ⟨σd, h, rs, rm, w⟩ => ?_⟩
  · split at w1
    · split at w1
      · exact k _ _ w1
      · exact w1
    · exact w1
  · refine lift_mk he.mono rs rm w fun y h1 v H1 px rs1 rv rm1 w1 => ?_
    split at w1
    · rename_i d e1
      split at w1
      · rename_i b e2
        exact ⟨v, .ty n, .type (tyN d), .type n, b, rfl, .ty n, tyx_of (asD_ok rv rm1 e1), kit_ty e2, w1 (.bl b) H1 px rv_bl rm1⟩
      · exact w1.elim
    · exact w1.elim
end

/-! ## zip -/
def zipD (ds es : List PyData) : List PyData := (ds.zip es).map fun p => .tuple [p.1, p.2]
theorem zipD_get {ds es : List PyData} {i : Nat} {a b : PyData} (h1 : ds[i]? = some a) (h2 : es[i]? = some b) : (zipD ds es)[i]? = some (.tuple [a, b]) := by
  unfold zipD
  have e : (ds.zip es)[i]? = some (a, b) := List.getElem?_zip_eq_some.mpr ⟨h1, h2⟩
  rw [List.getElem?_map, e]
  rfl
theorem zipD_len (ds es : List PyData) : (zipD ds es).length = min ds.length es.length := by simp [zipD]
theorem gives_zipL {K : PySem.W.Frag} {F : Hp} {a b : Addr} {vs ws : List V} {ds es : List PyData} (h1 : SqL K F a vs) (h2 : SqL K F b ws) (r1 : DpAll K F vs ds) (r2 : DpAll K F ws es) : Gives K F (Itz K a b) (zipD ds es) := by
  unfold Gives
  have w0 := walk_zip (K := K) (a := a) (b := b) (xs := vs) (ys := ws) (n := (zipD ds es).length) (by rw [zipD_len, dps_len r1, dps_len r2])
  refine ⟨fun i H hi s => w0.goes i H hi ⟨sqL_up s h1, sqL_up s h2⟩, fun H s => w0.stops H ⟨sqL_up s h1, sqL_up s h2⟩, fun i H x H' hi s y => ⟨s, ?_⟩⟩
  obtain ⟨T, p, q, e1, e2, e3, e4, e5⟩ := w0.yields i H x H' hi ⟨sqL_up s h1, sqL_up s h2⟩ y
  obtain ⟨da, f1, f2⟩ := dps_getv r1 e4
  obtain ⟨db, g1, g2⟩ := dps_getv r2 e5
  exact ⟨_, zipD_get f1 g1, .inr ⟨T, p, q, da, db, e1, e2, e3, rfl, f2, g2⟩⟩
theorem gives_zipT {K : PySem.W.Frag} {F : Hp} {a b : Addr} {vs ws : List V} {ds es : List PyData} (h1 : SqT K F a vs) (h2 : SqT K F b ws) (r1 : DpAll K F vs ds) (r2 : DpAll K F ws es) : Gives K F (ItzT K a b) (zipD ds es) := by
  unfold Gives
  have hl : (zipD ds es).length = min vs.length ws.length := by rw [zipD_len, dps_len r1, dps_len r2]
  rw [hl]
  refine ⟨fun i H hi s => ?_, fun H s => ⟨vs, ws, sqT_up s h1, sqT_up s h2, by omega⟩, fun i H x H' hi s y => ⟨s, ?_⟩⟩
  · exact ⟨vs, ws, vs[i]'(by omega), ws[i]'(by omega), sqT_up s h1, sqT_up s h2, List.getElem?_eq_getElem (by omega), List.getElem?_eq_getElem (by omega)⟩
  · obtain ⟨T, p, q, e1, e2, e3, e4, e5⟩ := y
    obtain ⟨da, f1, f2⟩ := dps_getv r1 (e4 _ (sqT_up s h1))
    obtain ⟨db, g1, g2⟩ := dps_getv r2 (e5 _ (sqT_up s h2))
    exact ⟨_, zipD_get f1 g1, .inr ⟨T, p, q, da, db, e1, e2, e3, rfl, f2, g2⟩⟩
def wZip (ta tb : DTE) : DTI := fun σ h Q => ta σ h fun x h1 => tb σ h1 fun y h2 => match fz1 x h2 with
  | some (.list ds, h3) => (match fz1 y h3 with
    | some (.list es, h4) => Q (zipD ds es) h4
    | _ => False)
  | some (.tuple ds, h3) => (match fz1 y h3 with
    | some (.tuple es, h4) => Q (zipD ds es) h4
    | _ => False)
  | _ => False
section
variable {X : Cx} {a b : Expr} {p pos tpos : Pos} {elts : List Expr} {kk : Nat} {ta tb : DTE}
theorem dw_zip (hg : Gl X "zip") (hm : X.mg "zip" = none) (ha : DE X Γ a ta) (hb : DE X Γ b tb) (hs : starEach [a, b] X.env = (false, eval a X.env) :: starEach [b] X.env := by rfl) (hs2 : starEach [b] X.env = (false, eval b X.env) :: starEach [] X.env := by rfl) (hpl : (backTo pos (starEach [b] X.env)).any (·.1) = false := by rfl) :
    DWk X Γ (.Tuple elts kk tpos) (.Call (.Name "zip" p) [a, b] [] pos) (wZip ta tb) := by
  refine ⟨fun σ h Q Q' k w => ha.mono _ _ _ _ (fun x h1 w1 => hb.mono _ _ _ _ (fun y h2 w2 => ?_) w1) w, pi_imp (pi_zipA hg hm (da_cons ha (da_cons hb da_nil hs2) hs).pa hs hpl) fun σ H R ⟨σd, h, rs, rm, w⟩ => ?_⟩
  · split at w2
    · split at w2
      · exact k _ _ w2
      · exact w2
    · split at w2
      · exact k _ _ w2
      · exact w2
    · exact w2
  · refine lift_mk (mono_cons ha.mono (mono_cons hb.mono fun _ _ _ _ k w => k _ _ w)) rs rm (C := fun xs h2 => ∃ x y, xs = [x, y] ∧ match fz1 x h2 with
        | some (.list ds, h3) => (match fz1 y h3 with
          | some (.list es, h4) => (∀ J H', PX Γ H h H' h4 → RM X.K Γ H' h4 → Gives X.K (Fz Γ H' h4) J (zipD ds es) → R J H')
          | _ => False)
        | some (.tuple ds, h3) => (match fz1 y h3 with
          | some (.tuple es, h4) => (∀ J H', PX Γ H h H' h4 → RM X.K Γ H' h4 → Gives X.K (Fz Γ H' h4) J (zipD ds es) → R J H')
          | _ => False)
        | _ => False) (ha.mono _ _ _ _ (fun x h1 w1 => hb.mono _ _ _ _ (fun y h2 w2 => ⟨x, y, rfl, w2⟩) w1) w) fun xs h1 vs H1 px rs1 rvs rm1 w1 => ?_
    obtain ⟨x, y, rfl, w1⟩ := w1
    obtain ⟨v, u, rfl, rv, ru⟩ := rvs2 rvs
    split at w1
    · rename_i ds h3 e1
      split at w1
      · rename_i es h4 e2
        obtain ⟨p1, r1, d1⟩ := fz1_ok rv rm1 e1
        obtain ⟨p2, r2, d2⟩ := fz1_ok (ru.up p1) r1 e2
        have d1' := dp_up p2.ex _ _ d1
        cases d1' with
        | @lst a1 vs1 _ s1 dd1 => cases d2 with
          | @lst a2 vs2 _ s2 dd2 => exact ⟨a1, a2, vs1, vs2, rfl, .inl ⟨sqL_up fz_sub s1, sqL_up fz_sub s2, w1 _ _ ((px.trans p1).trans p2) r2 (gives_zipL s1 s2 dd1 dd2)⟩⟩
      · exact w1.elim
    · rename_i ds h3 e1
      split at w1
      · rename_i es h4 e2
        obtain ⟨p1, r1, d1⟩ := fz1_ok rv rm1 e1
        obtain ⟨p2, r2, d2⟩ := fz1_ok (ru.up p1) r1 e2
        have d1' := dp_up p2.ex _ _ d1
        cases d1' with
        | @tup a1 vs1 _ s1 dd1 => cases d2 with
          | @tup a2 vs2 _ s2 dd2 => exact ⟨a1, a2, vs1, vs2, rfl, .inr ⟨sqT_up fz_sub s1, sqT_up fz_sub s2, w1 _ _ ((px.trans p1).trans p2) r2 (gives_zipT s1 s2 dd1 dd2)⟩⟩
      · exact w1.elim
    · exact w1.elim
end

/-! ## xs.extend(a fresh list) -/
def dExt (to : DTE) (tF : DTF) : DTE := fun σ h Q => to σ h fun x h1 => match asL h1 x with
  | some _ => tF σ h1 fun ds h2 => (match ownL h2 x with
    | some (a, xs) => xs.length + ds.length ≤ sizeLine ∧ Q (.d .none) (mput h2 a (.lst (xs ++ ds)))
    | none => False)
  | none => False
section
variable {X : Cx} {e o : Expr} {apos cpos : Pos} {to : DTE} {tF : DTF}
theorem de_ext (ho : DE X Γ o to) (f : DF X Γ e tF) (hbase : attributeBase o "extend" X.env (eval o X.env) = eval o X.env := by rfl)
    (hfew : ((backTo cpos (starEach [e] X.env)).all (fun x => !x.1) && (backToKw cpos (keywordEach [] X.env)).all (fun x => x.1.isSome) && decide ([e].length + ([] : List Keyword).length + (if ([] : List Keyword).isEmpty then 0 else 1) < 30)) = true := by rfl)
    (hline : (apos.endLine == cpos.line) = true := by rfl) (hs : starEach [e] X.env = (false, eval e X.env) :: starEach [] X.env := by rfl) (hplain : (backTo cpos (starEach [] X.env)).any (·.1) = false := by rfl) :
    DE X Γ (.Call (.Attribute o "extend" apos) [e] [] cpos) (dExt to tF) := by
  refine ⟨fun σ h Q Q' k w => ho.mono _ _ _ _ (fun x h1 w1 => ?_) w, pe_imp (pe_bm PySem.F.plainAttrs_list PySem.F.slot_list_extend PySem.F.type_list_extend mt_extend ho.pe (pa_cons f.pe pa_nil hs) hbase hfew hline hs hplain) fun σ H Q ⟨σd, h, rs, rm, w⟩ => lift_mk ho.mono rs rm w fun x h1 v H1 px rs1 rv rm1 w1 => ?_⟩
  · split at w1
    · refine f.mono _ _ _ _ (fun ds h2 w2 => ?_) w1
      split at w2
      · exact ⟨w2.1, k _ _ w2.2⟩
      · exact w2
    · exact w1
  · split at w1
    · rename_i xs0 e1
      obtain ⟨a, vs, rfl, s1, d1⟩ := asL_ok rv rm1 e1
      refine ⟨.inl ⟨rfl, vs, s1⟩, σd, h1, rs1, rm1, f.mono _ _ _ _ (fun ds h2 w2 ws H2 p px2 dd rm2 np => ?_) w1⟩
      split at w2
      · rename_i a' xs e2
        obtain ⟨ex, q⟩ := ownL_ok e2
        subst ex
        cases (show V.ref a = V.ref a' from rv)
        obtain ⟨vs2, z1, z2⟩ := rm2.ob a _ q
        have ne : a ≠ p := ne_of_none z1 np
        have rm3 : RM X.K Γ (upd H2 p (.lst ws)) h2 := RM.new np rm2
        have px3 : PX Γ H2 h2 (upd H2 p (.lst ws)) h2 := rm2.px np
        have hd : DpAll X.K (Fz Γ (upd H2 p (.lst ws)) h2) (vs2 ++ ws) (xs ++ ds) := dps_app (dps_up px3.ex _ _ z2) (dps_up px3.ex _ _ dd)
        have l1 := dps_len z2
        have l2 := dps_len dd
        refine ⟨a, p, vs2, ws, rfl, rfl, by rw [upd_ne ne]; exact z1, upd_same, by rw [l1, l2]; exact w2.1, ?_⟩
        exact w2.2 .non _ (((px.trans px2).trans px3).trans (put_px q rm3)) rv_non (put_rm q rm3 hd)
      · exact w2.elim
    · exact w1.elim
end

/-! ## enumerate(a list, a tuple) -/
theorem enum_new1 {v : Value} {o : Obj} {HH : Heap → Prop} (B : Begins v o HH) :
    Meets (Builtin.«enumerate.__new__» ⟨[.type "enumerate", v], []⟩) (fun _ R s => HH s.heap ∧ R (.ok (.ret (.ref (s.heap.push o).objs.size)))
      { s with heap := (s.heap.push o).push { cls := .type "enumerate", data := .fields #[.none, .bool false, .ref s.heap.objs.size, rawInt 0, .none, .none] } }) :=
  .of_wp fun prog w A R s h => by
    obtain ⟨hp, g, dr, tk, os⟩ := s
    obtain ⟨hb, h⟩ := h
    have hsub := sub_enumerate
    have it1 : ∀ {A1 : Around} {E1 Q1 : Value → Shared → Prop}, Q1 (.ref hp.objs.size) ⟨hp.push o, g, dr, tk, os⟩ → wpAny (model prog w) A1 (pyIter v) Q1 E1 ⟨hp, g, dr, tk, os⟩ := fun q => B.iter prog w _ _ ⟨hp, g, dr, tk, os⟩ _ hb q
    wp_walk using it1
    refine wpAny_stack_any fun st => wpAny_pure ?_
    split
    · rename_i c _ _ _ _ _
      cases (c == Value.type "enumerate") <;> (wp_walk using it1; exact ⟨_, rfl, h⟩)
    · wp_walk using it1
      exact ⟨_, rfl, h⟩
theorem call_enumB {prog : Program} {w : World} {A : Around} {E : Value → Shared → Prop} {s : Shared} {v : Value} {o : Obj} {HH : Heap → Prop} {Q : Value → Shared → Prop} (B : Begins v o HH) (hb : HH s.heap)
    (k : ∀ h', IsEnum h' (s.heap.objs.size + 1) s.heap.objs.size 0 .none → h'.get? s.heap.objs.size = some o → (∀ b u, s.heap.get? b = some u → h'.get? b = some u) → Q (.ref (s.heap.objs.size + 1)) { s with heap := h' }) :
    wpAny (model prog w) A (call (.type "enumerate") [v]) Q E s := by
  refine callType_new F.called_enumerate (by decide) (F.typeCall_enumerate_1 _) (F.newCall_enumerate_1 _) (fun obj => F.args_object_init_2 obj _) F.entry_enumerate_new (enum_new1 B) ⟨hb, ?_⟩
  have z : (s.heap.push o).objs.size = s.heap.objs.size + 1 := Heap.size_push ..
  show _ ∧ _
  rw [z]
  have en := Heap.get?_push_size (s.heap.push o) (o := { cls := .type "enumerate", data := .fields #[.none, .bool false, .ref s.heap.objs.size, rawInt 0, .none, .none] }) rfl
  rw [z] at en
  exact ⟨⟨_, en, rfl⟩, k _ en (Heap.get?_push_of_some _ (Heap.get?_push_size _ B.free)) fun b u x => Heap.get?_push_of_some _ (Heap.get?_push_of_some _ x)⟩
/-- the tuple at a, each item in a new pair -/
def IteT (K : PySem.W.Frag) (a : Addr) : It :=
  ⟨fun i H => ∃ (xs : List V) (x : V), SqT K H a xs ∧ xs[i]? = some x, fun i H v H' => ∃ T x, v = .ref T ∧ H T = none ∧ H' = upd H T (.tup [.int (i : Nat), x]) ∧ ∀ xs, SqT K H a xs → xs[i]? = some x, fun i H => ∃ xs : List V, SqT K H a xs ∧ xs.length = i⟩
theorem turn_enumT {P : Program} {w : World} {K : PySem.W.Frag} {elts : List Expr} {kk : Nat} {tpos : Pos} (a e it : Addr) :
    Turn P w K (.Tuple elts kk tpos) (IteT K a) [e, it] e (fun i h => (∃ old, IsEnum h e it ((i : Nat) : Int) old) ∧ h.IsTupleIter it a i ∧ e ≠ it) where
  mem := by simp
  obj := fun i h st b hb => by
    obtain ⟨⟨old, he⟩, ⟨o, ho, hc, hd⟩, _⟩ := st
    have e' : b = e ∨ b = it := by simpa using hb
    rcases e' with z | z
    · subst z; exact ⟨_, he, fun v q => nomatch q⟩
    · subst z; exact ⟨o, ho, fun v q => by rw [hd] at q; cases q⟩
  keep := fun i h h' st k => ⟨st.1.imp fun _ he => k e (by simp) _ he, st.2.1.at fun o q => k it (by simp) o q, st.2.2⟩
  item := by
    intro X hP hw hK hc i pins s σ H E I hf st hg
    subst hP hw hK
    obtain ⟨⟨old, he⟩, hit, hne⟩ := st
    obtain ⟨xs, x, hq, hx⟩ := hg
    obtain ⟨its, rv, p, hz⟩ := I.tuple hq
    have pt : s.heap.IsTuple a its.toArray := p
    obtain ⟨u, hu, ru⟩ := rv.get hx
    have hel : e < s.heap.objs.size := Heap.lt_size he
    have hil : it < s.heap.objs.size := by obtain ⟨_, q, _⟩ := hit; exact Heap.lt_size q
    have ai : a ≠ it := fun z => by
      obtain ⟨o1, q1, c1, _⟩ := id pt
      obtain ⟨o2, q2, c2, _⟩ := id hit
      rw [z, q2] at q1
      cases q1
      rw [c1] at c2
      revert c2
      decide
    have ea : e ≠ a := fun z => by
      obtain ⟨o1, q1, c1, _⟩ := id pt
      have q2 : s.heap.get? e = _ := he
      rw [z, q1] at q2
      cases q2
      have c2 : Value.type "enumerate" = Value.type "tuple" := c1
      revert c2
      decide
    have hlt : i < its.toArray.size := by
      have := (List.getElem?_eq_some_iff.mp hu).1
      simpa using this
    refine wpAny_pyNext_enum_itemC (Draws.tuple (A := X.A.in1) (I.ok.hd hc) it a ai its.toArray) he ⟨hit, pt⟩ hlt hne (by simp; exact ⟨hne, ea⟩) fun y h' tk hy ho st' hT hsz hk => ?_
    have ey : y = u := by
      have z : its.toArray[i]? = some u := by simpa using hu
      rw [z] at hy
      exact (Option.some.inj hy).symm
    subst ey
    refine ⟨_, rfl, wpAny_letOwnedTupleGo_enum (s := { s with heap := h', toks := tk + 1 }) ho fun h2 he2 sb => ?_⟩
    have hT2 : h2.get? s.heap.objs.size = some { cls := .type "tuple", data := .seq #[.int i tk, y] } := (sb.2 _ (Nat.ne_of_gt hel)).trans hT
    have new : ObjOk X.prog X.w (upd H s.heap.objs.size (.tup [.int (i : Nat), x])) h2 s.heap.objs.size (.tup [.int (i : Nat), x]) := ⟨by show 2 ≤ sizeLine; decide, [.int i tk, y], .cons ⟨_, rfl⟩ (.cons ru .nil), _, hT2, rfl, _, rfl⟩
    have I1 : Inv X pins σ (upd H s.heap.objs.size (.tup [.int (i : Nat), x])) { s with heap := h2, toks := tk + 1 } :=
      I.turnedNew (ch := [e, it]) (fun b ob hb q => (sb.2 b (fun z => hb (by simp [z]))).trans (hk b ob (fun z => hb (by simp [z])) (fun z => hb (by simp [z])) q)) hf (Nat.le_refl _) new
    refine ⟨.ref s.heap.objs.size, _, I1, rfl, ⟨_, x, rfl, I.hok.fresh (Nat.le_refl _), rfl, fun ys hy => by rw [I.tuple_inj hy hq]; exact hx⟩, ⟨⟨y, ?_⟩, st'.1.at fun o q => (sb.2 it (Ne.symm hne)).trans q, hne⟩, fun b hb => ?_⟩
    · rw [show ((i + 1 : Nat) : Int) = (i : Int) + 1 by omega]
      exact he2
    · have lt : b < s.heap.objs.size := by
        have e' : b = e ∨ b = it := by simpa using hb
        rcases e' with z | z
        · subst z; exact hel
        · subst z; exact hil
      rw [upd_ne (Nat.ne_of_lt lt)]
      exact (hf b hb).1
  done := by
    intro X hP hw hK hc i pins s σ H E I hf st hg
    subst hP hw hK
    obtain ⟨⟨old, he⟩, hit, hne⟩ := st
    obtain ⟨xs, hq, hx⟩ := hg
    obtain ⟨its, rv, p, hz⟩ := I.tuple hq
    have pt : s.heap.IsTuple a its.toArray := p
    have ai : a ≠ it := fun z => by
      obtain ⟨o1, q1, c1, _⟩ := id pt
      obtain ⟨o2, q2, c2, _⟩ := id hit
      rw [z, q2] at q1
      cases q1
      rw [c1] at c2
      revert c2
      decide
    obtain ⟨f0, f1, f2, f3, f4, f5⟩ := hf it (by simp)
    have hl := rv.length
    have ei : i = its.toArray.size := by simp; omega
    subst ei
    exact wpAny_pyNext_enum_endD (Draws.tuple (A := X.A.in1) (I.ok.hd hc) it a ai its.toArray) he ⟨hit, pt⟩ fun h' eb => ⟨rfl, I.turned (t' := s.toks) (fun b o hb q => eb b o hb q) f0 f1 f3 f4 f5⟩
  self := fun A i s Q E st h => wpAny_pyIter_enum (Classical.choose_spec st.1) h
def iEnumA (K : PySem.W.Frag) (ta : TA) : TI := fun σ H R => ta σ H fun vs H1 => ∃ a xs, vs = [.ref a] ∧ ((SqL K H1 a xs ∧ R (Ite K a) H1) ∨ (SqT K H1 a xs ∧ R (IteT K a) H1))
theorem pi_enumA {X : Cx} {e : Expr} {ta : TA} {p pos tpos : Pos} {elts : List Expr} {kk : Nat} (hg : Gl X "enumerate") (hm : X.mg "enumerate" = none) (ha : PA X [e] ta) (hs : starEach [e] X.env = [(false, eval e X.env)] := by rfl) :
    PI X (.Tuple elts kk tpos) (.Call (.Name "enumerate" p) [e] [] pos) (iEnumA X.K ta) := by
  refine ⟨fun pins s σ H R I h => ?_⟩
  refine Call_ (ld_blt I hg hm boot_enumerate (PyProof.Rows.callWith_type1 (thn (ha.run pos pins s σ H _ I h) fun us s1 ⟨vs, H1, I1, r1, q1⟩ => ?_) hs rfl))
  obtain ⟨a, xs, rfl, q1⟩ := q1
  rw [Vals.ref1 r1]
  have fresh : ∀ b, b ∈ [s1.heap.objs.size + 1, s1.heap.objs.size] → FpOk X pins H1 b := fun b hb => by
    have e' : b = s1.heap.objs.size + 1 ∨ b = s1.heap.objs.size := by simpa using hb
    have hle : s1.heap.objs.size ≤ b := by omega
    exact I1.fpOk hle (I1.hok.fresh hle)
  rcases q1 with ⟨hq, q⟩ | ⟨hq, q⟩
  · obtain ⟨its, rv, p', hz⟩ := I1.list hq
    refine call_enumB (begins_list a its.toArray) p'.isList fun h' he hit hk => wpAny_pyIter_enum he ?_
    exact ⟨s1.heap.objs.size + 1, [s1.heap.objs.size + 1, s1.heap.objs.size], _, _, H1, rfl, I1.kept (t' := s1.toks) hk, turn_enum a (s1.heap.objs.size + 1) s1.heap.objs.size, ⟨⟨.none, he⟩, ⟨_, hit, rfl, rfl⟩, Nat.succ_ne_self _⟩, fresh, q⟩
  · obtain ⟨its, rv, p', hz⟩ := I1.tuple hq
    refine call_enumB (begins_tuple a its.toArray) p' fun h' he hit hk => wpAny_pyIter_enum he ?_
    exact ⟨s1.heap.objs.size + 1, [s1.heap.objs.size + 1, s1.heap.objs.size], _, _, H1, rfl, I1.kept (t' := s1.toks) hk, turn_enumT a (s1.heap.objs.size + 1) s1.heap.objs.size, ⟨⟨.none, he⟩, ⟨_, hit, rfl, rfl⟩, Nat.succ_ne_self _⟩, fresh, q⟩
def enumD (ds : List PyData) : List PyData := ds.zipIdx.map fun p => .tuple [.int (p.2 : Nat), p.1]
theorem enumD_get {ds : List PyData} {i : Nat} {a : PyData} (h : ds[i]? = some a) : (enumD ds)[i]? = some (.tuple [.int (i : Nat), a]) := by
  unfold enumD
  rw [List.getElem?_map, List.getElem?_zipIdx, h]
  simp
theorem enumD_len (ds : List PyData) : (enumD ds).length = ds.length := by simp [enumD]
theorem gives_enumL {K : PySem.W.Frag} {F : Hp} {a : Addr} {vs : List V} {ds : List PyData} (h1 : SqL K F a vs) (r1 : DpAll K F vs ds) : Gives K F (Ite K a) (enumD ds) := by
  unfold Gives
  rw [enumD_len, ← dps_len r1]
  have w0 := walk_enum (K := K) (a := a) (xs := vs)
  refine ⟨fun i H hi s => w0.goes i H hi (sqL_up s h1), fun H s => w0.stops H (sqL_up s h1), fun i H x H' hi s y => ⟨s, ?_⟩⟩
  obtain ⟨T, p, q, e1, e2, e3, e4, e5⟩ := w0.yields i H x H' hi (sqL_up s h1) y
  cases e4
  obtain ⟨da, f1, f2⟩ := dps_getv r1 e5
  exact ⟨_, enumD_get f1, .inr ⟨T, _, q, _, da, e1, e2, e3, rfl, .int _, f2⟩⟩
theorem gives_enumT {K : PySem.W.Frag} {F : Hp} {a : Addr} {vs : List V} {ds : List PyData} (h1 : SqT K F a vs) (r1 : DpAll K F vs ds) : Gives K F (IteT K a) (enumD ds) := by
  unfold Gives
  rw [enumD_len, ← dps_len r1]
  refine ⟨fun i H hi s => ⟨vs, vs[i], sqT_up s h1, List.getElem?_eq_getElem hi⟩, fun H s => ⟨vs, sqT_up s h1, rfl⟩, fun i H x H' hi s y => ⟨s, ?_⟩⟩
  obtain ⟨T, q, e1, e2, e3, e5⟩ := y
  obtain ⟨da, f1, f2⟩ := dps_getv r1 (e5 _ (sqT_up s h1))
  exact ⟨_, enumD_get f1, .inr ⟨T, _, q, _, da, e1, e2, e3, rfl, .int _, f2⟩⟩
def wEnum (te : DTE) : DTI := fun σ h Q => te σ h fun x h1 => match fz1 x h1 with
  | some (.list ds, h2) => Q (enumD ds) h2
  | some (.tuple ds, h2) => Q (enumD ds) h2
  | _ => False
theorem dw_enum {X : Cx} {e : Expr} {te : DTE} {p pos tpos : Pos} {elts : List Expr} {kk : Nat} (hg : Gl X "enumerate") (hm : X.mg "enumerate" = none) (he : DE X Γ e te) (hs : starEach [e] X.env = [(false, eval e X.env)] := by rfl) : DWk X Γ (.Tuple elts kk tpos) (.Call (.Name "enumerate" p) [e] [] pos) (wEnum te) := by
  refine ⟨fun σ h Q Q' k w => he.mono _ _ _ _ (fun x h1 w1 => ?_) w, pi_imp (pi_enumA hg hm (da_cons he da_nil hs).pa hs) fun σ H R ⟨σd, h, rs, rm, w⟩ => ?_⟩
  · split at w1
    · exact k _ _ w1
    · exact k _ _ w1
    · exact w1
  · refine lift_mk (mono_cons he.mono fun _ _ _ _ k w => k _ _ w) rs rm (C := fun xs h1 => ∃ x, xs = [x] ∧ match fz1 x h1 with
        | some (.list ds, h2) => (∀ J H', PX Γ H h H' h2 → RM X.K Γ H' h2 → Gives X.K (Fz Γ H' h2) J (enumD ds) → R J H')
        | some (.tuple ds, h2) => (∀ J H', PX Γ H h H' h2 → RM X.K Γ H' h2 → Gives X.K (Fz Γ H' h2) J (enumD ds) → R J H')
        | _ => False) (he.mono _ _ _ _ (fun x h1 w1 => ⟨x, rfl, w1⟩) w) fun xs h1 vs H1 px rs1 rvs rm1 w1 => ?_
    obtain ⟨x, rfl, w1⟩ := w1
    obtain ⟨v, rfl, rv⟩ := rvs1 rvs
    split at w1
    · rename_i ds h2 e1
      obtain ⟨p1, r1, d1⟩ := fz1_ok rv rm1 e1
      cases d1 with
      | @lst a1 vs1 _ s1 dd1 => exact ⟨a1, vs1, rfl, .inl ⟨sqL_up fz_sub s1, w1 _ _ (px.trans p1) r1 (gives_enumL s1 dd1)⟩⟩
    · rename_i ds h2 e1
      obtain ⟨p1, r1, d1⟩ := fz1_ok rv rm1 e1
      cases d1 with
      | @tup a1 vs1 _ s1 dd1 => exact ⟨a1, vs1, rfl, .inr ⟨sqT_up fz_sub s1, w1 _ _ (px.trans p1) r1 (gives_enumT s1 dd1)⟩⟩
    · exact w1.elim
end DL

namespace DL
open PySem PySem.Spec PyProof.Rows L2
open PySem.W (AlikeAll minD dataLt min_list_default alike)
set_option autoImplicit true

/-! ## min(a list, default=None) -/
def rMinD (K : PySem.W.Frag) : List V → List V → Hp → VK → Prop := fun xs zs H Q => ∃ (a : Addr) (vs : List V) (ds : List PyData) (F : Hp), xs = [.ref a] ∧ zs = [.non] ∧ SqL K H a vs ∧ Sub F H ∧ DpAll K F vs ds ∧ AlikeAll ds ∧ PyData.depthAll ds ≤ 60 ∧ (ds = [] → Q .non H) ∧ (∀ y ys, ds = y :: ys → ∀ v, Dp K F v (minD y ys) → Q v H)
theorem cr_minD {X : Cx} (hc : X.calm = true) (hu : X.A.units + 64 < cLine) : CallRK X (.builtin "min") [Str.ofString "default"] (rMinD X.K) := by
  intro pins s σ H xs zs us ws Q I r1 r2 h
  obtain ⟨a, vs, ds, F, rfl, rfl, sq, sub, dd, al, dp, q0, q1⟩ := h
  rw [Vals.ref1 r1]
  obtain ⟨u, rfl, ru⟩ := vals1 r2
  cases (show u = Value.none from ru)
  obtain ⟨its, rv, pl, hz⟩ := I.list sq
  obtain ⟨as, ra⟩ := Dp.readsAll I ds vs its (dps_up sub _ _ dd) rv
  show wpAny _ _ (call (.builtin "min") [.ref a] [(Str.ofString "default", Value.none)]) _ _ _
  refine min_list_default (I.ok.hd hc) pl.isList (vs := its.toArray) (xs := ds) (as := as) (by simpa using ra) al (by omega) (fun e h' tk k => ⟨.non, H, I.kept (t' := tk) k, rfl, q0 e⟩) fun y ys i v h' tk bs e hv hr k => ?_
  have hv' : its[i]? = some v := by simpa using hv
  obtain ⟨x, hx, rx⟩ : ∃ x, vs[i]? = some x ∧ RelV x v := by
    rcases paired_at (i := i) rv with ⟨_, e2⟩ | ⟨x, y, e1, e2, rr⟩
    · rw [e2] at hv'; cases hv'
    · rw [e2] at hv'
      cases hv'
      exact ⟨x, e1, rr⟩
  obtain ⟨d, hd, dx⟩ := dps_getv dd hx
  obtain ⟨bs2, r3⟩ := Dp.reads I d x v (dp_up sub _ _ dx) rx
  obtain ⟨eq, _⟩ := PyProof.Rows.reads_det (fun b o e _ => k b o e) r3 hr
  subst eq
  exact ⟨x, H, I.kept (t' := tk) k, rx, q1 y ys e x dx⟩
def dMinD (te : DTE) : DTE := fun σ h Q => te σ h fun x h1 => match asL h1 x with
  | some ds => AlikeAll ds ∧ PyData.depthAll ds ≤ 60 ∧ (match ds with
    | [] => Q (.d .none) h1
    | y :: ys => Q (.d (minD y ys)) h1)
  | none => False
theorem de_minD {X : Cx} {e : Expr} {te : DTE} {p pos kp kpos : Pos} {j} (hc : X.calm = true) (hu : X.A.units + 64 < cLine) (hg : Gl X "min") (hm : X.mg "min" = none) (he : DE X Γ e te)
    (he1 : backTo pos (starEach [e] X.env) = (false, eval e X.env) :: backTo pos (starEach [] X.env) := by rfl) (hpl : (backTo pos (starEach [e] X.env)).any (·.1) = false := by rfl) (hs : starEach [e] X.env = (false, eval e X.env) :: starEach [] X.env := by rfl)
    (hall : (backToKw pos (keywordEach [⟨some "default", .Constant .none j kp, kpos⟩] X.env)).all (·.1.isSome) = true := by rfl) (hnone : (backToKw pos (keywordEach [⟨some "default", .Constant .none j kp, kpos⟩] X.env)).any (·.1.isNone) = false := by rfl)
    (hks : (backToKw pos (keywordEach [⟨some "default", .Constant .none j kp, kpos⟩] X.env)).filterMap (·.1) = [Str.ofString "default"] := by rfl) :
    DE X Γ (.Call (.Name "min" p) [e] [⟨some "default", .Constant .none j kp, kpos⟩] pos) (dMinD te) := by
  refine ⟨fun σ h Q Q' k w => he.mono _ _ _ _ (fun x h1 w1 => ?_) w, pe_imp (pe_callBK (cr_minD hc hu) hg hm rfl (pa_cons he.pe pa_nil hs) (pk_cons pe_non pk_nil) (by decide) (by decide) he1 hpl hall hnone hks) fun σ H Q ⟨σd, h, rs, rm, w⟩ => ?_⟩
  · split at w1
    · refine ⟨w1.1, w1.2.1, ?_⟩
      have w2 := w1.2.2
      split at w2
      · exact k _ _ w2
      · exact k _ _ w2
    · exact w1
  · refine lift_mk he.mono rs rm w fun x h1 v H1 px rs1 rv rm1 w1 => ?_
    split at w1
    · rename_i ds e1
      obtain ⟨a, vs, rfl, s1, d1⟩ := asL_ok rv rm1 e1
      obtain ⟨al, dp, w2⟩ := w1
      refine ⟨a, vs, ds, Fz Γ H1 h1, rfl, rfl, s1, fz_sub, d1, al, dp, fun e => ?_, fun y ys e v dv => ?_⟩
      · subst e
        exact w2 .non H1 px rv_non rm1
      · subst e
        exact w2 v H1 px dv rm1
    · exact w1.elim
end DL

namespace DL
open PySem PySem.Spec PyProof.Rows L2
set_option autoImplicit true

/-! ## set(x) -/
/-- an empty set, as set(..) lays it first -/
abbrev bareSet (w : World) : Obj := { cls := .type "set", dict := none, data := .set #[] 0 (.fresh 0 0 (!w.params.followText "set-order")) }
section
variable {P : Program} {w : World} {A : Around} {E : Value → Shared → Prop} {s : Shared}
/-- set(x), whatever x is: what the filling does with the bare set -/
theorem set_call {x : Value} {Q : Value → Shared → Prop} {s1 : Shared} (e1 : s1 = { s with heap := s.heap.push (bareSet w) }) (at1 : s1.heap.get? s.heap.objs.size = some (bareSet w))
    (fill : wpAny (model P w) A.in1.in1 (Builtin.«set.__init__» ⟨[.ref s.heap.objs.size, x], []⟩) (fun f s' => f = .done (.ret .none) ∧ Q (.ref s.heap.objs.size) s') E s1) : wpAny (model P w) A (call (.type "set") [x]) Q E s := by
  have tc := F.called_set
  obtain ⟨c0, l0, q0⟩ := tc.mro
  have q1 := tc.made
  have q2 := tc.sub
  have q3 := tc.notType
  have q4 := tc.canCreate
  have q5 := F.typeCall_set_1 x
  have q6 := tc.init.lookup
  have q7 := tc.init.bind (.ref s.heap.objs.size)
  refine wpAny_call (codeAny_of_tree (show wpAny _ _ (callAny (.type "set") _) _ _ _ from wpAny_pure ⟨Code.quiet_builtin _ (by decide +kernel), codeAny_builtin F.entry_type_call ?_⟩))
  rw [Around.under_plain (weight_type_call_type "set" [x] []) rfl]
  repeat any_goals first | assumption | wp_step
  refine codeAny_mono (code_set_led1 x (E := E) (Q₁ := fun v s2 => v = .ref s.heap.objs.size ∧ s2 = s1) ⟨rfl, e1.symm⟩) fun r s2 hr => ?_
  obtain er | fl := r
  · exact hr
  cases fl with
  | ret v =>
    obtain ⟨ev, es⟩ := hr
    subst ev es
    have isS : s2.TypeIs (.ref s.heap.objs.size) "set" := ⟨_, at1, rfl⟩
    repeat any_goals first | assumption | wp_step
    refine codeAny_mono (codeAny_call_builtin (R := wants (fun r s3 => r = .none ∧ Q (.ref s.heap.objs.size) s3) E) tc.init.plain F.entry_set_init (check_set_init_1 isS (thn fill fun f s3 z => ?_))) fun r s3 hr => ?_
    · obtain ⟨ef, q⟩ := z
      subst ef
      exact ⟨rfl, q⟩
    obtain er | fl := r
    · exact hr
    cases fl with
    | ret v =>
      obtain ⟨ev, q⟩ := hr
      subst ev
      repeat any_goals first | assumption | wp_step
    | _ => exact hr.elim
  | _ => exact hr.elim
/-- a list of ints -/
theorem call_set_listI {l : Addr} {items : Array Value} (ns : List Int) {Q : Value → Shared → Prop} (hh : A.handled = none) (ll : s.heap.IsList l items) (ia : IntsAre items.toList ns) (hb : ns.length + 1 < scanBound)
    (h : ∀ (h' : Heap) (tk c : Nat), SetR w h' s.heap.objs.size (fun j => decide (j ∈ ns)) c → c ≤ ns.length → (∀ b o, s.heap.get? b = some o → h'.get? b = some o) → Q (.ref s.heap.objs.size) { s with heap := h', toks := tk }) : wpAny (model P w) A (call (.type "set") [.ref l]) Q E s := by
  have sz : items.size = ns.length := by rw [← Array.length_toList]; exact IntsAre.length ia
  obtain ⟨s1, e1⟩ : ∃ s1 : Shared, s1 = { s with heap := s.heap.push (bareSet w) } := ⟨_, rfl⟩
  have at1 : s1.heap.get? s.heap.objs.size = some (bareSet w) := by rw [e1]; exact Heap.get?_push_size _ rfl
  refine set_call e1 at1 ?_
  have ll1 : s1.heap.IsList l items := by rw [e1]; exact ll.push _
  have ls : l < s.heap.objs.size := by obtain ⟨o, e, _⟩ := ll; exact Heap.lt_size e
  have sz1 : s1.heap.objs.size = s.heap.objs.size + 1 := by rw [e1]; exact Heap.size_push ..
  have old1 : ∀ b o, s.heap.get? b = some o → s1.heap.get? b = some o := fun b o e => by rw [e1]; exact Heap.get?_push_of_some _ e
  have q1 := F.sub_list_set
  have q2 := F.sub_list_frozenset
  have q3 : (Value.type "list" == Value.type "dict") = false := by decide
  have ll2 := ll1
  obtain ⟨o1, g1, g2, g3, g4⟩ := ll2
  obtain ⟨oc, od, odt, osl⟩ := o1
  dsimp only at g2 g4
  subst g2 g4
  unfold Builtin.«set.__init__» noKeywords Builtin.Frozenset.updateFrom
  generalize hPI : pyIter = PI
  wp_walk
  subst hPI
  refine wpAny_pyIter_list ll1 (wpAny_bind (wpAny_runValue ?_))
  have W := (Walks.list (prog := P) (w := w) (A := A.in1.in1.in1) (by simp [hh]) s1.heap.objs.size l (by rw [sz1]; exact Nat.ne_of_lt (Nat.lt_succ_of_lt ls)) items).toS
  refine set_update_ints W s.heap.objs.size (by
    rw [sz1]
    intro z
    rcases List.mem_cons.mp z with z | z
    · exact absurd z (Nat.ne_of_lt (Nat.lt_succ_self _))
    · exact absurd (List.mem_singleton.mp z) (Nat.ne_of_gt ls)) ns sz hb (fun i v hv => ?_) items.size 0 _ (by omega) (Nat.zero_le _)
    ⟨⟨_, Heap.get?_push_size _ rfl, rfl, rfl⟩, ll1.push _⟩ ⟨0, Nat.le_refl 0, setR_new_at (Heap.get?_push_of_some _ at1)⟩ fun s3 c mv lc R => ?_
  · have lt : i < ns.length := by rw [← sz]; exact (Array.getElem?_eq_some_iff.mp hv).1
    obtain ⟨t, e⟩ := PyProof.Rows.IntsAre.int_at ia i v (by rw [Array.getElem?_toList]; exact hv)
    rw [List.getD_eq_getElem?_getD, List.getElem?_eq_getElem lt] at e
    exact ⟨ns[i], t, List.getElem?_eq_getElem lt, e⟩
  · rw [sz] at lc
    have r1 : s3.gens = s.gens := by rw [show s3.gens = s1.gens from mv.gens, e1]
    have r2 : s3.drawn = s.drawn := by rw [show s3.drawn = s1.drawn from mv.drawn, e1]
    have r3 : s3.os = s.os := by rw [show s3.os = s1.os from mv.os, e1]
    have fin := h s3.heap s3.toks c R lc fun b o e => mv.heap b o (fun z => by
      have lb : b < s.heap.objs.size := Heap.lt_size e
      rcases List.mem_cons.mp z with z | z
      · exact absurd z (Nat.ne_of_lt lb)
      · rw [List.mem_singleton.mp z, sz1] at lb
        exact Nat.not_succ_le_self _ (Nat.le_of_lt lb)) (Heap.get?_push_of_some _ (old1 b o e))
    rw [← r1, ← r2, ← r3] at fin
    exact wpAny_pure (wpAny_pure ⟨rfl, fin⟩)
end
def tSortSetI (K : PySem.W.Frag) (ta : TE) : TE := fun σ H Q => ta σ H fun x H1 => ∃ (l : Addr) (ns : List Int), x = V.ref l ∧ SqL K H1 l (ns.map V.int) ∧ ns.length < 64 ∧
  ∀ (ms : List Int) (p : Addr), ms.Pairwise (· < ·) → (∀ k : Int, k ∈ ms ↔ k ∈ ns) → H1 p = none → Q (.ref p) (upd H1 p (.lst (ms.map V.int)))
section
variable {X : Cx} {a : Expr} {ta : TE}
theorem pe_sortSetI {p p2 q pos : Pos} (hc : X.calm = true) (hg : Gl X "sorted") (hm : X.mg "sorted" = none) (hg2 : Gl X "set") (hm2 : X.mg "set" = none) (ha : PE X a ta)
    (na : starEach [a] X.env = (false, eval a X.env) :: starEach [] X.env := by rfl) : PE X (.Call (.Name "sorted" p) [.Call (.Name "set" p2) [a] [] q] [] pos) (tSortSetI X.K ta) := by
  refine ⟨fun pins s σ H Q I h => ?_⟩
  refine Call_ (ld_blt I hg hm (by rfl) ?_)
  refine PyProof.Rows.callWith_builtin1 (PyProof.Rows.args_cons ?_ rfl) rfl rfl
  refine Call_ (ld_blt I hg2 hm2 PyProof.Rows.boot_set ?_)
  refine PyProof.Rows.callWith_type1 (PyProof.Rows.args_cons (thn (ha.run pins s σ H _ I h) fun v s1 ⟨x, H1, I1, r1, q1⟩ => PyProof.Rows.args_nil ?_) na) na rfl
  obtain ⟨l, ns, rfl, hq, h1, q1⟩ := q1
  cases r1
  obtain ⟨its, r, pl, hz⟩ := I1.list hq
  refine call_set_listI (I1.ok.hd hc) pl.isList (ns := ns) (by simpa using r.ints) (by unfold scanBound; omega) fun h' tk c hS hc' hk => ?_
  refine PyProof.Rows.args_nil ?_
  have I2 : Inv X pins σ H1 { s1 with heap := h', toks := tk } := I1.kept fun b o e => hk b o e
  have hS : SetR X.w ({ s1 with heap := h', toks := tk } : Shared).heap s1.heap.objs.size (fun j => decide (j ∈ ns)) c := hS
  generalize ({ s1 with heap := h', toks := tk } : Shared) = s2 at *
  refine sorted_set hS (I1.ok.hd hc) (by omega) fun s' p out c ms k g o hp hg hi hs hmm hl => ?_
  have hn : H1 p = none := I2.hok.fresh hp
  have hlen : (ms.map V.int).length ≤ sizeLine := by rw [List.length_map, hl, sizeLine_eq]; omega
  have J : Inv X pins σ (upd H1 p (.lst (ms.map V.int))) { s2 with heap := s'.heap, gens := s'.gens, drawn := s'.drawn, toks := s'.toks } :=
    I2.call (ch := []) (Un.laid k hp hn) (I2.hok.laid k hp ⟨hlen, out.toList, c, vals_of_ints hi, hg⟩) (by rw [g]; exact I2.bare) (fun _ z => nomatch z)
  have e : s' = { s2 with heap := s'.heap, gens := s'.gens, drawn := s'.drawn, toks := s'.toks } := by
    cases s'
    cases s2
    cases o
    rfl
  rw [e]
  exact ⟨.ref p, _, J, rfl, q1 ms p hs (fun k => (hmm k).trans (by simp)) hn⟩
def fSortSet (ta : DTE) : DTF := fun σ h Q => ta σ h fun x h1 => match asL h1 x with
  | some ds => ∃ ns : List Int, ds = ns.map PyData.int ∧ ns.length < 64 ∧ ∀ ms : List Int, ms.Pairwise (· < ·) → (∀ k : Int, k ∈ ms ↔ k ∈ ns) → Q (ms.map PyData.int) h1
  | none => False
theorem df_sortSet {t : DTE} {p p2 q pos : Pos} (hc : X.calm = true) (hg : Gl X "sorted") (hm : X.mg "sorted" = none) (hg2 : Gl X "set") (hm2 : X.mg "set" = none) (ha : DE X Γ a t)
    (na : starEach [a] X.env = (false, eval a X.env) :: starEach [] X.env := by rfl) : DF X Γ (.Call (.Name "sorted" p) [.Call (.Name "set" p2) [a] [] q] [] pos) (fSortSet t) :=
  ⟨fun σ h Q Q' k w => ha.mono _ _ _ _ (fun x h1 w1 => by
    split at w1
    · obtain ⟨ns, e, hl, w2⟩ := w1
      exact ⟨ns, e, hl, fun ms a b => k _ _ (w2 ms a b)⟩
    · exact w1) w, pe_imp (pe_sortSetI hc hg hm hg2 hm2 ha.pe na) fun σ H Q ⟨σd, h, rs, rm, w⟩ => lift_mk ha.mono rs rm w fun x h1 v H1 px rs1 rv rm1 w1 => by
      split at w1
      · rename_i ds e1
        obtain ⟨ns, e2, hl, w2⟩ := w1
        obtain ⟨b, vs, rfl, s1, d1⟩ := asL_ok rv rm1 e1
        obtain ⟨ns', rfl, e3⟩ := ints_get d1 (fun d hd => by rw [e2] at hd; obtain ⟨i, _, rfl⟩ := List.mem_map.mp hd; exact ⟨i, rfl⟩)
        have e4 : ns' = ns := (List.map_inj_right (fun x y z => by cases z; rfl)).mp (e3.symm.trans e2)
        subst e4
        exact ⟨b, ns', rfl, s1, hl, fun ms p hs hm hq => w2 ms hs hm _ _ _ px (dps_ints ms) rm1 hq⟩
      · exact w1.elim⟩
end

/-! ## own errors with two fields -/
section
open PySem.W PySem.Calls PySem.HandSPX
variable {prog : Program} {w : World} {A : Around} {R : Result → Shared → Prop} {s : Shared} {K : Frag} {mg : Str → Option Value} {x base qual : Str} {C Cb fI : Addr} {B newId initId : String} {bmB : List Value} {params : Arguments} {scope : Scope} {fd : FuncData}
theorem bind3f {kindOf : Str → Option NameKind} {f g : Str} {a v u : Value} (h1 : kindOf "self" = some .local) (h2 : kindOf f = some .local) (h3 : kindOf g = some .local) (ne : f ≠ ("self" : Str)) (ne2 : g ≠ ("self" : Str)) (nfg : f ≠ g) :
    bindL kindOf [("self", a), (f, v), (g, u)] (fun _ => none) "self" = some a ∧ bindL kindOf [("self", a), (f, v), (g, u)] (fun _ => none) f = some v ∧ bindL kindOf [("self", a), (f, v), (g, u)] (fun _ => none) g = some u := by
  have n1 : ¬ ("self" : Str) = f := fun z => ne z.symm
  have n2 : ¬ ("self" : Str) = g := fun z => ne2 z.symm
  refine ⟨?_, ?_, ?_⟩
  · simp [bindL, h1, h2, h3, n1, n2]
  · simp [bindL, h1, h2, h3, nfg]
  · simp [bindL, h1, h2, h3]
def map2 (f g : Str) (v u : Value) : Str → Option Value := fun y => if y = g then some u else if y = f then some v else none
theorem err_init2 {f g : Str} {q1 q2 q3 q4 q5 q6 q7 q8 q9 q10 q11 q12 q13 : Pos} {e t0 : Addr} {v u : Value} (T : ErrC K mg x base C Cb fI [f, g] B newId initId bmB) (F : FunD K "__init__" qual params [eCall base q1 q2 q3 q4 q5, ePut f q6 q7 q8 q9, ePut g q10 q11 q12 q13] scope [] [] fI fd) (S : EScope scope base [f, g]) (nfg : f ≠ g)
    (hb : ∀ (kV doc pm : Value) (an : Option Addr) (cdv ct : Value) (us : List Value), us.length = 3 → bindArgs (fnOf "__init__" qual params [eCall base q1 q2 q3 q4 q5, ePut f q6 q7 q8 q9, ePut g q10 q11 q12 q13] scope .none kV doc pm an cdv ct) ⟨us, []⟩ = pure ([("self" : Str), f, g].zip us))
    {pl : Env → Sem Bool} (hc : ∀ env : Env, eval (.Call (.Attribute (.Name base q1) "__init__" q2) [.Name "self" q3] [] q4) env = (do
      let ov ← eval (.Name base q1) env
      standAt q2.atName
      let (f, first) ← holding [ov] (getMethod ov "__init__" (pl env))
      callWith q4 f first (backTo q4 (starEach [.Name "self" q3] env)) (backToKw q4 (keywordEach [] env))))
    (hsw : ∀ env : Env, swapsWith (.Call (.Attribute (.Name base q1) "__init__" q2) [.Name "self" q3] [] q4) none q5.line env = pure false) (hdb : (base == ("__debug__" : Str)) = false)
    (hsw2 : ∀ env : Env, swapsWith (.Name f q8) (some (.Attribute (.Name "self" q6) f q7)) q9.line env = pure false) (hsw3 : ∀ env : Env, swapsWith (.Name g q12) (some (.Attribute (.Name "self" q10) g q11)) q13.line env = pure false)
    (X : K.In s.heap) (hlim : s.heap.NoLimit) (hglo : s.heap.Ns mainGlobals mg) (he : s.heap.get? e = some (excO C t0)) (hne : K.lookup e = none) (hroom : A.depth < recursionLimit)
    (k : ∀ h' tk dx t1, EInit s.heap h' e C dx t1 (map2 f g v u) → R (.ok (.ret .none)) { s with heap := h', toks := tk }) :
    codeAny (model prog w) A (.call (.ref fI) ⟨[.ref e, v, u], []⟩) R s := by
  obtain ⟨oc, od, dV, kV, doc, pm, an, cdv, ct, osl, rfl, lk, hcd, hD, hK⟩ := F.ex
  obtain ⟨hf1, hf2, hf3⟩ := S.fs f List.mem_cons_self
  obtain ⟨hg1, hg2, hg3⟩ := S.fs g (List.mem_cons_of_mem _ List.mem_cons_self)
  obtain ⟨nm, q, N, bs, bm, sn, sub, ab, col, dd, k0, k1, k2, k3, k5, hC, hbm⟩ := T.cls
  have hcl : clsIn K C = some { name := nm, bases := bs, mro := .ref C :: bm, ns := N, qualname := q, hasDict := true, slotNames := sn, subclasses := sub, abstract := ab, collection := col, hasDel := false } := by unfold clsIn; rw [hC] <;> rfl
  have dv : dV = .none := by
    rcases hD with ⟨_, z⟩ | ⟨z, _⟩
    · exact z
    · exact absurd rfl z
  subst dv
  refine Att.call_fn (binds := [("self", .ref e), (f, v), (g, u)]) X hlim lk hcd hroom (BindsTo.of_eq (hb _ _ _ _ _ _ [.ref e, v, u] rfl)) (by simp [S.me, hf1, hg1]) (fun s₁ IC => ?_) S.co S.gen S.kind
  obtain ⟨h₁, tk₁, rfl⟩ := IC.toInCall.same
  have kp : ∀ b o, s.heap.get? b = some o → h₁.get? b = some o := IC.toInCall.keep
  have hn := IC.toInCall.ns
  have X₁ : K.In h₁ := X.keeps kp
  have he₁ := kp _ _ he
  have kme : (envOfC qual scope s.heap.objs.size fI cdv).kindOf "self" = some .local := S.me
  have kf : (envOfC qual scope s.heap.objs.size fI cdv).kindOf f = some .local := hf1
  have kg : (envOfC qual scope s.heap.objs.size fI cdv).kindOf g = some .local := hg1
  obtain ⟨b1, b2, b3⟩ := bind3f (a := .ref e) (v := v) (u := u) kme kf kg hf2 hg2 nfg
  have lt : s.heap.objs.size < h₁.objs.size := hn.lt
  show wpAny _ _ (execs _ _) _ _ _
  refine wpAny_execs_cons (wpAny_Expr_any ?_ (by simp [interactive, envOfC, S.kind]) (hsw _))
  refine methodCall_KW (Calls.Name_function_global S.kind S.base (Calls.loadGlobal_global (hglo.keeps kp) T.gB ?_) hdb) (hc _)
  refine method_cls X₁ T.gaB (cls_value X₁ T.rdB T.biB T.hI ?_)
  refine callWith_method1 (first := []) ?_ rfl rfl
  show wpAny _ _ (spliced [(false, eval (.Name "self" q3) _)]) _ _ _
  refine Calls.spliced_cons (e_load (v := .ref e) S.kind kme hn b1 (Calls.spliced_nil ?_) (by decide))
  show wpAny _ _ (call (.builtin initId) [.ref e]) _ _ _
  refine wpAny_call (init_base T.FB (fun Y => excTail_contains Y bm hbm) (X₁ _ _ hC) he₁ (by rw [sizeLine_eq]; decide) fun h₂ t1 k₂ he₂ => ?_)
  have neL : s.heap.objs.size ≠ e := Nat.ne_of_gt (Heap.lt_size he)
  have X₂ : K.In h₂ := fun b o z => k₂ b o (fun y => by rw [y, hne] at z; cases z) (X₁ b o z)
  obtain ⟨oL, esL, nL, gL, dL, rL⟩ := hn
  have hn₂ : h₂.Ns s.heap.objs.size _ := ⟨oL, esL, nL, k₂ _ _ neL gL, dL, rL⟩
  show wpAny _ _ (execs _ _) _ _ _
  refine wpAny_execs_cons (plainObj_wpAny_Assign_Attribute ?_ (hsw2 _))
  refine e_load (v := v) S.kind kf hn₂ b2 (e_load (v := .ref e) S.kind kme hn₂ b1 ?_ (by decide)) hf3
  refine set_plain X₂ (ox := excO C t1) (od := none) ⟨he₂, rfl, rfl, trivial⟩ T.sa ?_
  refine put_first T.SF X₂ he₂ hcl T.ov rfl (T.tk f List.mem_cons_self) fun h₃ tk₃ dx k₃ dn dne he₃ hn₃ => ?_
  have old : ∀ b o, b ≠ e → s.heap.get? b = some o → h₃.get? b = some o := fun b o hb z => k₃ b o hb (k₂ b o hb (kp b o z))
  have X₃ : K.In h₃ := fun b o z => k₃ b o (fun y => by rw [y, hne] at z; cases z) (X₂ b o z)
  have hn₄ : h₃.Ns s.heap.objs.size _ := ⟨oL, esL, nL, k₃ _ _ neL (k₂ _ _ neL gL), dL, rL⟩
  show wpAny _ _ (execs _ _) _ _ _
  refine wpAny_execs_cons (plainObj_wpAny_Assign_Attribute ?_ (hsw3 _))
  refine e_load (v := u) S.kind kg hn₄ b3 (e_load (v := .ref e) S.kind kme hn₄ b1 ?_ (by decide)) hg3
  have hw : Within (fun y => if y = f then some v else none) [f] := fun y hy => by
    by_cases z : y = f
    · rw [z]; exact List.mem_cons_self
    · exact absurd (show (if y = f then some v else none) = none by rw [if_neg z]) hy
  obtain ⟨oD, esD, epD, hoD, hdD, _⟩ := hn₃.count hw
  refine set_plain X₃ (ox := { excO C t1 with dict := some dx }) (od := some oD) ⟨he₃, rfl, rfl, hoD⟩ T.sa ?_
  have dlt : s.heap.objs.size ≤ dx := Nat.le_trans (Nat.le_of_lt hn₂.lt) dn
  refine put_more T.SF X₃ he₃ hn₃ hw (by show 1 ≤ 1000; decide) hcl T.ov rfl (T.tk g (List.mem_cons_of_mem _ List.mem_cons_self)) fun h₅ tk₅ k₅ hn₅ => ?_
  show wpAny _ _ (execs _ _) _ _ _
  have lt2 : ∀ b o, s.heap.get? b = some o → b ≠ dx := fun b o z => Nat.ne_of_lt (Nat.lt_of_lt_of_le (Heap.lt_size z) dlt)
  exact wpAny_execs_nil (k h₅ tk₅ dx t1 ⟨fun b o hb z => k₅ b o (lt2 b o z) (old b o hb z), k₅ _ _ dne.symm he₃, dlt, dne, hn₅⟩)
end
theorem rel_two {f g : Str} {v v2 : V} {u u2 : Value} (r : RelV v u) (r2 : RelV v2 u2) (nfg : f ≠ g) (y : Str) : RelO (List.lookup y [(f, v), (g, v2)]) (map2 f g u u2 y) := by
  unfold map2
  by_cases q : y = g
  · subst q
    rw [if_pos rfl]
    have n : (y == f) = false := by simpa using (fun z : y = f => nfg z.symm)
    have z : List.lookup y [(f, v), (y, v2)] = some v2 := by simp [List.lookup, n]
    rw [z]
    exact r2
  · rw [if_neg q]
    have q' : (y == g) = false := by simpa using q
    by_cases p : y = f
    · subst p
      rw [if_pos rfl]
      have z : List.lookup y [(y, v), (g, v2)] = some v := by simp [List.lookup]
      rw [z]
      exact r
    · rw [if_neg p]
      have p' : (y == f) = false := by simpa using p
      have z : List.lookup y [(f, v), (g, v2)] = none := by simp [List.lookup, q', p']
      rw [z]
      trivial
def tMk2 (C : Addr) (f g : Str) (ta : TA) : L2.St → Hp → XK → Prop := fun σ H Q => ta σ H fun vs H1 => ∃ v v2, vs = [v, v2] ∧ ∀ d, H1 d = none → Q (.ref C) (some d) (upd H1 d (.xd [(f, v), (g, v2)]))
def Init2 (K : PySem.W.Frag) (mg : Str → Option Value) (C fI : Addr) (f g : Str) : Prop := ∀ (prog : Program) (w : World) (A : Around) (R : Result → Shared → Prop) (s : Shared) (e t0 : Addr) (v u : Value), K.In s.heap → s.heap.NoLimit → s.heap.Ns mainGlobals mg → s.heap.get? e = some (PySem.HandSPX.excO C t0) → K.lookup e = none → A.depth < recursionLimit →
  (∀ h' tk dx t1, EInit s.heap h' e C dx t1 (map2 f g v u) → R (.ok (.ret .none)) { s with heap := h', toks := tk }) → codeAny (model prog w) A (.call (.ref fI) ⟨[.ref e, v, u], []⟩) R s
section
variable {X : Cx} {x base f g : Str} {C Cb fI : Addr} {B newId initId : String} {bmB : List Value}
theorem pmk_2 {a b : Expr} {ta : TA} {p pos : Pos} {k : Nat} (T : ErrC X.K X.mg x base C Cb fI [f, g] B newId initId bmB) (N : Init2 X.K X.mg C fI f g) (nfg : f ≠ g) (hr : Room k X.A) (ha : PA X [a, b] ta) (hg : Gl X x) (hdb : (x == ("__debug__" : Str)) = false)
    (he : starEach (a :: [b]) X.env = (false, eval a X.env) :: starEach [b] X.env := by rfl) (hpl : (backTo pos (starEach [b] X.env)).any (·.1) = false := by rfl) :
    PMk X (.Call (.Name x p) [a, b] [] pos) (tMk2 C f g ta) := by
  intro pins s σ H Q I h
  refine wpAny_Call_Name_kw (ld_glob I hg T.gC ?_ hdb)
  refine PySem.W.callWith_K (h₀ := X.base) I.ok.mod.kin T.kC (thn (ha.run pos pins s σ H _ I h) fun us s1 hh => ?_) he hpl
  obtain ⟨vs, H1, I1, r1, v, v2, ev, q1⟩ := hh
  subst ev
  refine ⟨I1.kIn, ?_⟩
  obtain ⟨u, u2, rfl, ru, ru2⟩ := vals2 r1
  show wpAny _ _ (call (.ref C) [u, u2]) _ _ _
  have hlim := I1.nolimit
  have hglo : s1.heap.Ns mainGlobals X.mg := I1.mod.glob.keeps I1.bk
  obtain ⟨hp, gn, dr, tk, os⟩ := s1
  refine wpAny_call (err_made T I1.kIn hlim hglo (by have := hr.dp; omega) (by rw [sizeLine_eq]; show 2 ≤ 16777216; decide) (fun {A R s e t0} a1 a2 a3 a4 a5 a6 a7 => N _ _ A R s e t0 u u2 a1 a2 a3 a4 a5 a6 a7) fun h' tk' e d M => ?_)
  show MkP X pins σ Q (.ref e) ⟨h', gn, dr, tk', os⟩
  obtain ⟨oe, fv, hoe, hc, hd, hdat, h1⟩ := M.obj
  obtain ⟨G', g1, g2⟩ := restrict h' fun b => decide (b ≠ e)
  have gk : ∀ b, b ≠ e → G'.get? b = h'.get? b := fun b hb => g1 b (decide_eq_true hb)
  have ge : G'.get? e = none := g2 e (by simp)
  have old : ∀ b o, hp.get? b = some o → G'.get? b = some o := fun b o q => (gk b (Nat.ne_of_lt (Nat.lt_of_lt_of_le (Heap.lt_size q) M.new))).trans (M.keep b o q)
  have ob : ObjOk X.prog X.w (upd H1 d (.xd [(f, v), (g, v2)])) G' d (.xd [(f, v), (g, v2)]) := ⟨_, M.ns.at (fun o q => (gk d M.ne).trans q), fun y => rel_two ru ru2 nfg y⟩
  have J : Inv X pins σ (upd H1 d (.xd [(f, v), (g, v2)])) ⟨G', gn, dr, tk', os⟩ := I1.laid (t' := tk') old M.big ob
  refine ⟨e, oe, fv, ⟨G', gn, dr, tk', os⟩, _, .ref C, some d, rfl, J, fun b o q => ?_, ge, hoe, ⟨hc, hd⟩, hdat, h1, ?_, rfl, I1.bare, raises_own T.exC T.tyC, q1 d (I1.hok.fresh M.big)⟩
  · by_cases hb : b = e
    · have q' : G'.get? b = some o := q
      rw [hb, ge] at q'
      cases q'
    · exact (gk b hb).symm.trans q
  · rw [upd_ne (Ne.symm M.ne)]
    exact I1.hok.fresh M.new
/-- raise C(a, b) -/
def dRaise2 (E : DXS) (n f g : Str) (t : DTA) : DTS := fun _ σ h => t σ h fun xs h1 => match fzs xs h1 with
  | some ([d, d2], h2) => E ⟨n, [(f, d), (g, d2)]⟩ σ h2
  | _ => False
theorem ds_raise2 {a b : Expr} {t : DTA} {E : DXS} {p pos pos2 : Pos} {k : Nat} (hc : X.calm = true) (T : ErrC X.K X.mg x base (He.ga X.K x) Cb fI [f, g] B newId initId bmB) (N : Init2 X.K X.mg (He.ga X.K x) fI f g) (nfg : f ≠ g) (hr : Room k X.A) (tk : Takes X (liftX X.K Γ E)) (ha : DA X Γ [a, b] t) (hg : Gl X x := by rfl) (hdb : (x == ("__debug__" : Str)) = false := by decide)
    (he : starEach (a :: [b]) X.env = (false, eval a X.env) :: starEach [b] X.env := by rfl) (hpl : (backTo pos (starEach [b] X.env)).any (·.1) = false := by rfl) :
    DS X Γ (.Raise (some (.Call (.Name x p) [a, b] [] pos)) none pos2) (dRaise2 E x f g t) := by
  refine ⟨fun D D' σ h l w => w, ps_imp (ps_raise hc tk (pmk_2 T N nfg hr ha.pa hg hdb he hpl)) fun D σ H ⟨σd, h, rs, rm, w⟩ => ?_⟩
  refine lift_mk ha.mono rs rm w fun xs h1 vs H1 px rs1 rvs rm1 w1 => ?_
  split at w1
  · rename_i d d2 h2 e1
    obtain ⟨p2, rm2, dp⟩ := fzs_ok rvs rm1 e1
    obtain ⟨v, v2, dv, dv2, rfl⟩ : ∃ v v2, Dp X.K (Fz Γ H1 h2) v d ∧ Dp X.K (Fz Γ H1 h2) v2 d2 ∧ vs = [v, v2] := by
      cases dp with
      | cons a b => cases b with
        | cons b c => cases c; exact ⟨_, _, a, b, rfl⟩
    refine ⟨v, v2, rfl, fun dd nd => ?_⟩
    have p3 : PX Γ H1 h2 (upd H1 dd (.xd [(f, v), (g, v2)])) h2 := rm2.px nd
    refine ⟨⟨x, [(f, d), (g, d2)]⟩, σd, h2, (rs1.up p2).up p3, RM.new nd rm2, ⟨rfl, .inr ⟨dd, [(f, v), (g, v2)], rfl, Fz.of upd_same (rm2.tracked nd) (rm2.notx nd), .cons ⟨rfl, dp_up p3.ex _ _ dv⟩ (.cons ⟨rfl, dp_up p3.ex _ _ dv2⟩ .nil)⟩⟩, w1⟩
  · exact w1.elim
end
def Err2 (K : PySem.W.Frag) (mg : Str → Option Value) (x f g : Str) : Prop := ∃ (base : Str) (Cb fI : Addr) (B newId initId : String) (bmB : List Value), ErrC K mg x base (He.ga K x) Cb fI [f, g] B newId initId bmB ∧ Init2 K mg (He.ga K x) fI f g
theorem ds_raiseE2 {X : Cx} {x f g : Str} {a b : Expr} {t : DTA} {E : DXS} {p pos pos2 : Pos} {k : Nat} (hc : X.calm = true) (T : Err2 X.K X.mg x f g) (nfg : f ≠ g) (hr : Room k X.A) (tk : Takes X (liftX X.K Γ E)) (ha : DA X Γ [a, b] t) (hg : Gl X x := by rfl) (hdb : (x == ("__debug__" : Str)) = false := by decide)
    (he : starEach (a :: [b]) X.env = (false, eval a X.env) :: starEach [b] X.env := by rfl) (hpl : (backTo pos (starEach [b] X.env)).any (·.1) = false := by rfl) :
    DS X Γ (.Raise (some (.Call (.Name x p) [a, b] [] pos)) none pos2) (dRaise2 E x f g t) := by
  obtain ⟨base, Cb, fI, B, newId, initId, bmB, T1, T2⟩ := T
  exact ds_raise2 hc T1 T2 nfg hr tk ha hg hdb he hpl

/-! ## try / except x, no name -/
def dWasO (kt : Str → Str → Option Bool) (n : Str) (ts : Addr → DExc → DTS) (Eo : DXS) (D : DEnds) : DXS := fun y σ h => ∃ b, kt y.cls n = some b ∧
  (b = true → ∀ a, h a = none → ts a y D σ h) ∧ (b = false → Eo y σ h)
def dTry (kt : Str → Str → Option Bool) (n : Str) (tb : DXS → DTS) (ts : Addr → DExc → DTS) (Eo : DXS) : DTS := fun D σ h =>
  ∃ (E0 : DXS) (D0 : DEnds), (∀ y σ' h', E0 y σ' h' → dWasO kt n ts Eo D y σ' h') ∧ DEnds.Le D0 D ∧ tb E0 D0 σ h
theorem try_mk {kt : Str → Str → Option Bool} {n : Str} {tb : DXS → DTS} {ts : Addr → DExc → DTS} {Eo : DXS} {D : DEnds} {σ : DSt} {h : MH} (w : tb (dWasO kt n ts Eo D) D σ h) : dTry kt n tb ts Eo D σ h := ⟨_, _, fun _ _ _ z => z, le_refl, w⟩
section
variable {X : Cx} {x : Str} {cv : Value} {body suite : List Stmt} {b₀ : Stmt} {np pos pos' : Pos} {kt : Str → Str → Option Bool} {tb : DXS → DTS} {ts : Addr → DExc → DTS} {Eo : DXS}
theorem ds_try (hs : X.stack = X.env :: X.outer) (hf : X.env.frame = some X.env.locals) (hc : Names X x cv) (hkt : ∀ c b, kt c x = some b → PySem.W.exmOne X.K (.ref (He.ga X.K c)) cv = some b) (tk : Takes X (liftX X.K Γ Eo))
    (hb : ∀ (Γ1 : GI), Γ1.T = Γ.T → ∀ (Ed : DXS) (pn : List (Addr × Obj)) (xe : Value → Shared → Prop), Takes (X.tr pn xe) (liftX X.K Γ1 Ed) → PassesOwn (model X.prog X.w) X.A X.env xe → DSs (X.tr pn xe) Γ1 body (tb Ed))
    (hsu : ∀ (Γ1 : GI), Γ1.T = Γ.T → ∀ (a : Addr) (oe : Obj) (y : DExc) (d : Option Addr) (pn : List (Addr × Obj)), Zc (.ref (He.ga X.K y.cls)) d oe → (∃ vs, oe.data = .fields vs) → DSs (X.suite a ((a, oe) :: pn)) (Γ1.exc X.K y (.ref (He.ga X.K y.cls)) d) (b₀ :: suite) (ts a y)) :
    DS X Γ (.Try body [.ExceptHandler (some (.Name x np)) none (b₀ :: suite) pos'] [] [] pos) (dTry kt x tb ts Eo) := by
  have ms : ∀ a y, MonoS (ts a y) := fun a y => (hsu Γ rfl a { cls := .ref (He.ga X.K y.cls), dict := none, data := .fields #[] } y none [] ⟨rfl, rfl⟩ ⟨_, rfl⟩).mono
  refine ⟨?_, ?_⟩
  · rintro D D' σ h l ⟨E0, D0, hE, hD, w⟩
    refine ⟨E0, D0, fun y σ' h' z => ?_, le_trans hD l, w⟩
    obtain ⟨b, e, p, q⟩ := hE y σ' h' z
    exact ⟨b, e, fun eb a na => ms _ _ _ _ _ _ l (p eb a na), q⟩
  · let tsR : Addr → Value → Option Addr → TS := fun a cls d D σ H => ∃ (Γ1 : GI) (y : DExc), Γ1.T = Γ.T ∧ cls = .ref (He.ga X.K y.cls) ∧ liftS X.K (Γ1.exc X.K y cls d) (ts a y) D σ H
    let tbR : WX → TS := fun W D σ H => ∃ (Γ1 : GI) (Ed : DXS) (D0 : DEnds) (σd : DSt) (h : MH), Γ1.T = Γ.T ∧ (∀ cls d σ' H', liftX X.K Γ1 Ed cls d σ' H' → W cls d σ' H') ∧ RSt X.K Γ1 H h σd σ ∧ RM X.K Γ1 H h ∧ DEnds.Le D0 (liftE X.K Γ1 H h D) ∧ tb Ed D0 σd h
    refine ps_imp (ps_try_only (c := cv) (tb := tbR) (ts := tsR) (Wout := liftX X.K Γ Eo) hs hf hc tk (fun W pn xe tk' ps => ?_) fun a oe cls d pn hz hfl => ?_) fun D σ H ⟨σd, h, rs, rm, E0, D0, hE, hD, w⟩ => ?_
    · exact ⟨fun pins s σ H D I ⟨Γ1, Ed, D0, σd, h, hT, le, rs, rm, l, w⟩ => by
        have der := hb Γ1 hT Ed pn xe (tk'.imp le) ps
        exact der.ps.run pins s σ H D I ⟨σd, h, rs, rm, der.mono _ _ _ _ l w⟩⟩
    · exact ⟨fun pins s σ H D I ⟨Γ1, y, hT, ec, w⟩ => by
        subst ec
        exact (hsu Γ1 hT a oe y d pn hz hfl).ps.run pins s σ H D I w⟩
    · refine ⟨Γ.at H h, E0, D0, σd, h, rfl, fun cls d σ' H' ⟨y, σd', h', rs', rm', rx, e⟩ => ?_, rs, rm.at, ?_, w⟩
      · obtain ⟨b, hb1, hyes, hno⟩ := hE _ _ _ e
        refine ⟨b, by rw [rx.1]; exact hkt _ _ hb1, fun q a na => ?_, fun q => ⟨y, σd', h', rs', rm'.un, rx, hno q⟩⟩
        refine ⟨Γ.at H h, y, rfl, rx.1, σd', h', rs', ⟨rm'.ob, ⟨rm'.g, rx⟩, rm'.nx, rm'.tb⟩, ms _ _ _ _ _ _ ?_ (hyes q a (rm'.tracked na))⟩
        exact ⟨fun σd2 h2 z σ2 H2 px rs2 rm2 => z _ H2 rm2.g.1.2 rs2 rm2.unE.un, fun v2 h2 z v H2 px rv2 rm2 => z v H2 rm2.g.1.2 rv2 rm2.unE.un,
            fun σd2 h2 z σ2 H2 px rs2 rm2 => z _ H2 rm2.g.1.2 rs2 rm2.unE.un, fun σd2 h2 z σ2 H2 px rs2 rm2 => z _ H2 rm2.g.1.2 rs2 rm2.unE.un⟩
      · exact le_trans hD ⟨fun σd2 h2 z σ2 H2 px rs2 rm2 => z σ2 H2 px rs2 rm2.un, fun v2 h2 z v H2 px rv2 rm2 => z v H2 px rv2 rm2.un, fun σd2 h2 z σ2 H2 px rs2 rm2 => z σ2 H2 px rs2 rm2.un, fun σd2 h2 z σ2 H2 px rs2 rm2 => z σ2 H2 px rs2 rm2.un⟩
end

/-! ## in, not in: tuples of data -/
def rInT (K : PySem.W.Frag) (no : Bool) : R2 := fun x y H Q => ∃ d ds, Dp K H x d ∧ Dp K H y (.tuple ds) ∧ d.plain = true ∧ PyData.plainAll ds = true ∧ d.depth ≤ 60 ∧ Q (.bl (if no = true then !ds.any fun z => PyData.eqv z d else ds.any fun z => PyData.eqv z d)) H
section
variable {X : Cx}
theorem op_inT (hu : X.A.units + 65 < cLine) : OpR X (compareOp .In) (rInT X.K false) := by
  intro pins s σ H x y v u Q I rx ry h
  obtain ⟨d, ds, hd, he, sd, se, hdd, q⟩ := h
  obtain ⟨as, r1⟩ := Dp.reads I d x v hd rx
  obtain ⟨bs, r2⟩ := Dp.reads I (.tuple ds) y u he ry
  exact SeqAt.in_tuple_data r2 r1 se sd (by omega) ⟨.bl _, H, I, rfl, q⟩
theorem op_notInT (hu : X.A.units + 65 < cLine) : OpR X (compareOp .NotIn) (rInT X.K true) := by
  intro pins s σ H x y v u Q I rx ry h
  obtain ⟨d, ds, hd, he, sd, se, hdd, q⟩ := h
  obtain ⟨as, r1⟩ := Dp.reads I d x v hd rx
  obtain ⟨bs, r2⟩ := Dp.reads I (.tuple ds) y u he ry
  exact SeqAt.notIn_tuple_data r2 r1 se sd (by omega) ⟨.bl _, H, I, rfl, q⟩
end
def rdInT (no : Bool) : DR2 := fun x y h Q => match asD h x, asD h y with
  | some d, some (.tuple ds) => d.plain = true ∧ PyData.plainAll ds = true ∧ d.depth ≤ 60 ∧ Q (.d (.bool (if no = true then !ds.any fun z => PyData.eqv z d else ds.any fun z => PyData.eqv z d))) h
  | _, _ => False
theorem lr_inT {K : PySem.W.Frag} {no : Bool} : LR2 K Γ (rdInT no) (rInT K no) := by
  refine ⟨fun x y h Q Q' k w => ?_, fun x y v u H h C' Q rv ru rm w k => ?_⟩
  · unfold rdInT at w ⊢
    split at w
    · exact ⟨w.1, w.2.1, w.2.2.1, k _ _ w.2.2.2⟩
    · exact w
  · unfold rdInT at w
    split at w
    · rename_i d ds e1 e2
      exact ⟨d, ds, asD_ok rv rm e1, asD_ok ru rm e2, w.1, w.2.1, w.2.2.1, k _ _ _ H PX.refl rv_bl rm w.2.2.2⟩
    · exact w.elim
end DL

namespace DL
open PySem PySem.Spec PyProof.Rows L2
set_option autoImplicit true

/-! ## a op b op c -/
def chainK (r r' : DR2) (tc : DTE) (σ : DSt) (y : SV) (Q : DK) : DK := fun z h3 => match z with
  | .d (.bool k) => if k = true then tc σ h3 fun w h4 => r' y w h4 Q else Q (.d (.bool false)) h3
  | _ => False
def dChain (r r' : DR2) (ta tb tc : DTE) : DTE := fun σ h Q => ta σ h fun x h1 => tb σ h1 fun y h2 => r x y h2 (chainK r r' tc σ y Q)
section
variable {X : Cx} {a b c : Expr} {ta tb tc : DTE} {pos : Pos}
theorem mono_chain {r r' : DR2} (m : ∀ x y h (Q Q' : DK), (∀ z h', Q z h' → Q' z h') → r x y h Q → r x y h Q') (m' : ∀ x y h (Q Q' : DK), (∀ z h', Q z h' → Q' z h') → r' x y h Q → r' x y h Q') (ma : Mono ta) (mb : Mono tb) (mc : Mono tc) : Mono (dChain r r' ta tb tc) :=
  fun σ h Q Q' k w => ma _ _ _ _ (fun x h1 w1 => mb _ _ _ _ (fun y h2 w2 => m _ _ _ _ _ (fun z h3 w3 => by
    unfold chainK at w3 ⊢
    split at w3
    · split at w3
      · rename_i k1 e
        rw [if_pos e]
        exact mc _ _ _ _ (fun w h4 w4 => m' _ _ _ _ _ k w4) w3
      · rename_i k1 e
        rw [if_neg e]
        exact k _ _ w3
    · exact w3.elim) w2) w1) w
theorem chain_lift {K : PySem.W.Frag} {r r' : DR2} {s s' : R2} (l : LR2 K Γ r s) (l' : LR2 K Γ r' s') (ma : Mono ta) (mb : Mono tb) (mc : Mono tc) : ∀ σ H Q, liftV K Γ (dChain r r' ta tb tc) σ H Q → tChain s s' (liftV K Γ ta) (liftV K Γ tb) (liftV K Γ tc) σ H Q := fun σ H Q ⟨σd, h, rs, rm, w⟩ =>
  lift_mk ma rs rm w fun x h1 v H1 px rs1 rv rm1 w1 => lift_mk mb rs1 rm1 w1 fun y h2 u H2 px2 rs2 ru rm2 w2 =>
    l.run x y v u H2 h2 _ _ (rv.up px2) ru rm2 w2 fun z h3 w' H3 px3 rz rm3 q => by
      unfold chainK at q
      split at q
      · rename_i k1
        cases rz
        refine ⟨k1, rfl, ?_⟩
        split at q
        · rename_i e
          rw [if_pos e]
          exact lift_mk mc (rs2.up px3) rm3 q fun z2 h4 w2 H4 px4 rs4 rw4 rm4 q4 => l'.run y z2 u w2 H4 h4 _ Q ((ru.up px3).up px4) rw4 rm4 q4 fun z5 h5 w5 H5 px5 rz5 rm5 q5 => q5 w5 H5 ((((px.trans px2).trans px3).trans px4).trans px5) rz5 rm5
        · rename_i e
          rw [if_neg e]
          exact q (.bl false) H3 ((px.trans px2).trans px3) rv_bl rm3
      · exact q.elim
theorem de_chain {op op' : CmpOp} {r r' : DR2} {s s' : R2} (ho : OpR X (compareOp op) s) (l : LR2 X.K Γ r s) (ho' : OpR X (compareOp op') s') (l' : LR2 X.K Γ r' s') (ha : DE X Γ a ta) (hb : DE X Γ b tb) (hc : DE X Γ c tc)
    (hm : lastMarks [op, op'] [b, c] = false := by with_unfolding_all rfl) : DE X Γ (.Compare a [op, op'] [b, c] pos) (dChain r r' ta tb tc) :=
  ⟨mono_chain l.mono l'.mono ha.mono hb.mono hc.mono, pe_imp (pe_chain ho ho' ha.pe hb.pe hc.pe hm) (chain_lift l l' ha.mono hb.mono hc.mono)⟩
theorem dt_chain {op op' : CmpOp} {r r' : DR2} {s s' : R2} (ho : OpR X (compareOp op) s) (l : LR2 X.K Γ r s) (ho' : OpR X (compareOp op') s') (l' : LR2 X.K Γ r' s') (ha : DE X Γ a ta) (hb : DE X Γ b tb) (hc : DE X Γ c tc)
    (hm : lastMarks [op, op'] [b, c] = false := by with_unfolding_all rfl) : DT X Γ (.Compare a [op, op'] [b, c] pos) (dTest (dChain r r' ta tb tc)) :=
  ⟨mono_test (mono_chain l.mono l'.mono ha.mono hb.mono hc.mono), pt_imp (pt_chain ho ho' ha.pe hb.pe hc.pe hm) fun σ H Q w => by
    obtain ⟨σd, h, rs, rm, w⟩ := test_lift (mono_chain l.mono l'.mono ha.mono hb.mono hc.mono) σ H Q w
    exact chain_lift l l' ha.mono hb.mono hc.mono σ H _ ⟨σd, h, rs, rm, w⟩⟩
end

/-! ## is True, is False -/
def rdIsB : DR2 := fun x y h Q => match x, y with
  | .d (.bool a), .d (.bool b) => Q (.d (.bool (decide (a = b)))) h
  | _, _ => False
def rdNotB : DR2 := fun x y h Q => match x, y with
  | .d (.bool a), .d (.bool b) => Q (.d (.bool (!decide (a = b)))) h
  | _, _ => False
theorem lr_isB {K : PySem.W.Frag} : LR2 K Γ rdIsB (fun x y H Q => ∃ a b, x = .bl a ∧ y = .bl b ∧ Q (.bl (decide (a = b))) H) := by
  refine ⟨fun x y h Q Q' k w => ?_, fun x y v u H h C' Q rv ru rm w k => ?_⟩
  · unfold rdIsB at w ⊢
    split at w
    · exact k _ _ w
    · exact w
  · unfold rdIsB at w
    split at w
    · cases rv
      cases ru
      exact ⟨_, _, rfl, rfl, k _ _ _ H PX.refl rv_bl rm w⟩
    · exact w.elim
theorem lr_notB {K : PySem.W.Frag} : LR2 K Γ rdNotB (fun x y H Q => ∃ a b, x = .bl a ∧ y = .bl b ∧ Q (.bl (!decide (a = b))) H) := by
  refine ⟨fun x y h Q Q' k w => ?_, fun x y v u H h C' Q rv ru rm w k => ?_⟩
  · unfold rdNotB at w ⊢
    split at w
    · exact k _ _ w
    · exact w
  · unfold rdNotB at w
    split at w
    · cases rv
      cases ru
      exact ⟨_, _, rfl, rfl, k _ _ _ H PX.refl rv_bl rm w⟩
    · exact w.elim

/-! ## max of a list of ints -/
def rdMaxL : DRA := fun xs h Q => match xs with
  | [x] => match asL h x with
    | some ds => ∃ ns : List Int, ds = ns.map PyData.int ∧ 0 < ns.length ∧ ∀ m, m ∈ ns → (∀ y, y ∈ ns → y ≤ m) → Q (.d (.int m)) h
    | none => False
  | _ => False
theorem la_maxL {K : PySem.W.Frag} : LRA K Γ rdMaxL (rMax K) := by
  refine ⟨fun xs h Q Q' k w => ?_, fun xs vs H h C Q r rm w k => ?_⟩
  · unfold rdMaxL at w ⊢
    split at w
    · split at w
      · obtain ⟨ns, e, l, q⟩ := w
        exact ⟨ns, e, l, fun m a b => k _ _ (q m a b)⟩
      · exact w
    · exact w
  · unfold rdMaxL at w
    split at w
    · obtain ⟨v, rfl, rv⟩ := rvs1 r
      split at w
      · rename_i ds e1
        obtain ⟨ns, e, l, q⟩ := w
        obtain ⟨a, vs, rfl, s1, d1⟩ := asL_ok rv rm e1
        obtain ⟨ns', rfl, e3⟩ := ints_get d1 (fun d hd => by rw [e] at hd; obtain ⟨i, _, rfl⟩ := List.mem_map.mp hd; exact ⟨i, rfl⟩)
        have e4 : ns' = ns := (List.map_inj_right (fun x y z => by cases z; rfl)).mp (e3.symm.trans e)
        subst e4
        exact ⟨a, ns', rfl, s1, l, fun m hm hb => k _ _ _ H PX.refl rv_int rm (q m hm hb)⟩
      · exact w.elim
    · exact w.elim

/-! ## module constants -/
theorem de_gint {X : Cx} {x : Str} {i : Int} {pos : Pos} (hg : Gl X x) (hm : ∃ t, X.mg x = some (.int i t)) (hd : (x == ("__debug__" : Str)) = false := by decide) : DE X Γ (.Name x pos) (dC (.int i)) := by
  obtain ⟨t, e⟩ := hm
  exact de_c (pe_glob hg e (v := .int i) ⟨t, rfl⟩ hd) fun _ => .int i
theorem dps_strs {K : PySem.W.Frag} {H : Hp} : ∀ (xs : List Str), DpAll K H (xs.map V.str) (xs.map PyData.str)
  | [] => .nil
  | x :: xs => .cons (.str x) (dps_strs xs)
/-- a tuple of texts of the module -/
def GTup (K : PySem.W.Frag) (mg : Str → Option Value) (x : Str) (zs : List Str) : Prop := mg x = some (.ref (He.ga K x)) ∧ He.tupB K x (zs.map He.Dv.str) = true
theorem de_gtup {X : Cx} {x : Str} {zs : List Str} {pos : Pos} (hg : Gl X x) (hm : GTup X.K X.mg x zs) (hd : (x == ("__debug__" : Str)) = false := by decide) : DE X Γ (.Name x pos) (dC (.tuple (zs.map PyData.str))) :=
  de_c (pe_glob hg hm.1 (v := .ref (He.ga X.K x)) rfl hd) fun H => .tup (by
    have z := He.tupB_ok hm.2 H
    rw [List.map_map] at z
    exact z) (dps_strs zs)
end DL

namespace DL
open PySem PySem.Spec PyProof.Rows L2
set_option autoImplicit true

/-! ## (d,) * k, k from 1 on -/
theorem tuple_mul1 (l : Addr) (items : Array Value) (n : Nat) (dd : Option Addr) (sl : Array (Option Value)) (u : Tok) :
    Meets (Builtin.«tuple.__mul__» ⟨[.ref l, .int 1 u], []⟩) (fun _ R s => s.heap.get? l = some { cls := .type "tuple", dict := dd, data := .seq items n, slots := sl } ∧ R (.ok (.ret (Value.ref l))) s) :=
  .of_wp fun prog w A R s h => by
    obtain ⟨hp, g, d, tk, os⟩ := s
    obtain ⟨hl, h⟩ := h
    have f1 := AutoSeq1.idx_int
    wp_walk using wpAny_loadPart' hl
    exact ⟨_, rfl, h⟩
def rRep1 (K : PySem.W.Frag) : R2 := fun x y H Q => ∃ l xs, x = .ref l ∧ y = .int 1 ∧ SqT K H l xs ∧ Q (.ref l) H
theorem op_rep1 {X : Cx} : OpR X (binaryOp .Mult) (rRep1 X.K) := by
  intro pins s σ H x y v u Q I rx ry h
  obtain ⟨l, xs, rfl, rfl, hT, q⟩ := h
  cases rx
  obtain ⟨t, rfl⟩ := ry
  obtain ⟨its, r, ⟨⟨cls, dd, data, sl⟩, ho, hc, n, hd⟩, hs⟩ := I.tuple hT
  simp only at hc hd
  subst hc hd
  exact wpAny_binaryOp_repeat_ref (T := "tuple") (U := "int") (by decide) ⟨_, ho, rfl⟩ (fun s' => typeIs_int s' 1 t) noFill_tuple_mul F.fills_int_mul F.slot_int_rmul repeat_tuple F.slot_int_index.lookup
    (call_meets F.slot_int_rmul (typeIs_int s 1 t) F.entry_int_rmul (F.args_int_rmul_2 _ _) (int_rmul_tuple 1 t l its.toArray n dd sl)
      ⟨ho, rfl, ⟨_, ho, rfl⟩, call_meets F.slot_tuple_mul ⟨_, ho, rfl⟩ F.entry_tuple_mul (F.args_tuple_mul_2 _ _) (tuple_mul1 l its.toArray n dd sl t) ⟨ho, .ref l, H, I, rfl, q⟩⟩)
def rMulT (K : PySem.W.Frag) : R2 := fun x y H Q => rRep1 K x y H Q ∨ rRepT K x y H Q
theorem op_mulT {X : Cx} : OpR X (binaryOp .Mult) (rMulT X.K) := op_rep1.or op_repT
def rdMulT : DR2 := fun x y h Q => match x, asInt y with
  | .d (.tuple ds), some k => ds ≠ [] ∧ 1 ≤ k ∧ k ≤ 1000 ∧ ds.length ≤ 1000 ∧ Q (.d (.tuple (List.replicate k.toNat ds).flatten)) h
  | _, _ => False
theorem lr_mulT {K : PySem.W.Frag} : LR2 K Γ rdMulT (rMulT K) := by
  refine ⟨fun x y h Q Q' k w => ?_, fun x y v u H h C' Q rv ru rm w k => ?_⟩
  · unfold rdMulT at w ⊢
    split at w
    · exact ⟨w.1, w.2.1, w.2.2.1, w.2.2.2.1, k _ _ w.2.2.2.2⟩
    · exact w
  · unfold rdMulT at w
    split at w
    · rename_i ds j e2
      obtain ⟨w1, w2, w3, w4, w5⟩ := w
      have rv0 := rv
      cases rv with
      | tup hs hall =>
        rename_i a xs
        by_cases q : j = 1
        · subst q
          have e : (List.replicate (1 : Int).toNat ds).flatten = ds := by simp
          rw [e] at w5
          exact .inl ⟨a, xs, rfl, asInt_ok ru e2, sqT_up fz_sub hs, k _ _ _ H PX.refl rv0 rm w5⟩
        · have hl := dps_len hall
          refine .inr ⟨a, j, xs, rfl, asInt_ok ru e2, sqT_up fz_sub hs, fun z => w1 ?_, by omega, w3, by omega, fun p hp => ?_⟩
          · rw [z] at hl
            exact List.eq_nil_of_length_eq_zero (by simpa using hl.symm)
          · obtain ⟨p1, r1, v1⟩ := new_tup hp rm (dps_rep hall j.toNat)
            exact k _ _ _ _ p1 v1 r1 w5
    · exact w.elim
end DL

namespace DL
open PySem PySem.Spec PyProof.Rows L2
set_option autoImplicit true

/-! ## dicts of one's own: made, asked by get, pop -/
theorem rvf_rv {K : PySem.W.Frag} {Γ : GI} {H : Hp} {h : MH} {x : SV} {v : V} (r : RVF K (Fz Γ H h) x v) : RV K Γ H h x v := by cases x <;> exact r
theorem rv_rvf {K : PySem.W.Frag} {Γ : GI} {H : Hp} {h : MH} {x : SV} {v : V} (r : RV K Γ H h x v) : RVF K (Fz Γ H h) x v := by cases x <;> exact r
/-- the pairs of one's own dict -/
def asDc (h : MH) : SV → Option (Addr × List (Key × SV))
  | .own a => match h a with
    | some (.dct ps) => some (a, ps)
    | _ => none
  | .d _ => none
theorem asDc_ok {h : MH} {x : SV} {p : Addr × List (Key × SV)} (e : asDc h x = some p) : x = .own p.1 ∧ h p.1 = some (.dct p.2) := by
  cases x with
  | d _ => cases e
  | own b =>
    cases q : h b with
    | none => simp only [asDc, q] at e; cases e
    | some m => cases m <;> simp only [asDc, q] at e <;> cases e <;> exact ⟨rfl, q⟩
theorem dc_at {K : PySem.W.Frag} {Γ : GI} {H : Hp} {h : MH} {x : SV} {v : V} {p : Addr × List (Key × SV)} (rm : RM K Γ H h) (rv : RV K Γ H h x v) (e : asDc h x = some p) : v = .ref p.1 ∧ h p.1 = some (.dct p.2) ∧ ∃ kvs, H p.1 = some (.dK kvs) ∧ Paired (RPF K (Fz Γ H h)) p.2 kvs := by
  obtain ⟨ex, ea⟩ := asDc_ok e
  subst ex
  obtain ⟨u0, f1, f2⟩ := ro_at (rm.ob _ _ ea)
  cases u0 <;> first | exact f2.elim | skip
  exact ⟨rv, ea, _, f1, f2⟩
theorem mono_new {o : MO} : Mono (fun (_ : DSt) h Q => ∀ p, h p = none → Q (SV.own p) (mput h p o)) := fun _ _ _ _ k w p hp => k _ _ (w p hp)
/-- {} -/
def dNewD : DTE := fun _ h Q => ∀ p, h p = none → Q (.own p) (mput h p (.dct []))
theorem own_newG {K : PySem.W.Frag} {Γ : GI} {H : Hp} {h : MH} {p : Addr} {u : HO} {o : MO} (n : H p = none) (r : RM K Γ H h) (hd : ROF K (Fz Γ H h) o u) : PX Γ H h (upd H p u) (mput h p o) ∧ RM K Γ (upd H p u) (mput h p o) ∧ h p = none :=
  ⟨own_px n (r.tracked n) (r.notx n), own_rmG n r hd, r.tracked n⟩
section
variable {X : Cx} {e o f : Expr} {te to ti tx : DTE} {t : DTA} {es : List Expr} {pos apos cpos : Pos}
theorem de_dnew : DE X Γ (.Dict [] [] pos) dNewD := ⟨mono_new, pe_imp pe_dnewK fun σ H Q ⟨σd, h, rs, rm, w⟩ p hp => by
  obtain ⟨a, b, c⟩ := own_newG (o := .dct []) (u := .dK []) hp rm (show Paired _ _ _ from .nil)
  exact w p c (.ref p) _ a rfl b⟩
/-- (a, .., z), of what is one's own as it is -/
def dTupO (t : DTA) : DTE := fun σ h Q => t σ h fun xs h1 => xs.length ≤ sizeLine ∧ ∀ p, h1 p = none → Q (.own p) (mput h1 p (.tpl xs))
theorem rvs_rof {K : PySem.W.Frag} {Γ : GI} {H : Hp} {h : MH} {xs : List SV} {vs : List V} (r : RVs K Γ H h xs vs) : Paired (RVF K (Fz Γ H h)) xs vs := paired_imp (fun _ _ => rv_rvf) r
theorem de_tupO {x1} (ha : DA X Γ es t) : DE X Γ (.Tuple es x1 pos) (dTupO t) :=
  ⟨fun σ h Q Q' k w => ha.mono _ _ _ _ (fun xs h1 w1 => ⟨w1.1, fun p hp => k _ _ (w1.2 p hp)⟩) w, pe_imp (pe_tup ha.pa) fun σ H Q ⟨σd, h, rs, rm, w⟩ =>
    lift_mk ha.mono rs rm w fun xs h1 vs H1 px rs1 rv rm1 w1 => ⟨by rw [rvs_len rv]; exact w1.1, fun p hp => by
      obtain ⟨a, b, c⟩ := own_newG (o := .tpl xs) (u := .tup vs) hp rm1 (show Paired _ _ _ from rvs_rof rv)
      exact w1.2 p c (.ref p) _ (px.trans a) rfl b⟩⟩
/-- [a, .., z], of what is one's own as it is -/
def dLstO (t : DTA) : DTE := fun σ h Q => t σ h fun xs h1 => xs.length ≤ sizeLine ∧ ∀ p, h1 p = none → Q (.own p) (mput h1 p (.seq xs))
theorem de_lstO (ha : DA X Γ es t) : DE X Γ (.List es pos) (dLstO t) :=
  ⟨fun σ h Q Q' k w => ha.mono _ _ _ _ (fun xs h1 w1 => ⟨w1.1, fun p hp => k _ _ (w1.2 p hp)⟩) w, pe_imp (pe_lst ha.pa) fun σ H Q ⟨σd, h, rs, rm, w⟩ =>
    lift_mk ha.mono rs rm w fun xs h1 vs H1 px rs1 rv rm1 w1 => ⟨by rw [rvs_len rv]; exact w1.1, fun p hp => by
      obtain ⟨a, b, c⟩ := own_newG (o := .seq xs) (u := .lst vs) hp rm1 (show Paired _ _ _ from rvs_rof rv)
      exact w1.2 p c (.ref p) _ (px.trans a) rfl b⟩⟩
/-! displays -/
def dPairs : List (DTE × DTE) → DSt → MH → (List (SV × SV) → MH → Prop) → Prop
  | [], _, h, Q => Q [] h
  | (tk, tv) :: r, σ, h, Q => tk σ h fun x h1 => tv σ h1 fun y h2 => dPairs r σ h2 fun ps h3 => Q ((x, y) :: ps) h3
def MonoP (trs : List (DTE × DTE)) : Prop := ∀ p ∈ trs, Mono p.1 ∧ Mono p.2
theorem mono_pairs : ∀ {trs : List (DTE × DTE)}, MonoP trs → Mono (dPairs trs)
  | [], _ => fun _ _ _ _ k w => k _ _ w
  | (tk, tv) :: r, m => fun σ h Q Q' k w => (m _ List.mem_cons_self).1 _ _ _ _ (fun x h1 w1 => (m _ List.mem_cons_self).2 _ _ _ _ (fun y h2 w2 => mono_pairs (trs := r) (fun p hp => m p (List.mem_cons_of_mem _ hp)) _ _ _ _ (fun ps h3 w3 => k _ _ w3) w2) w1) w
structure DPs (X : Cx) (Γ : GI) (pos : Pos) (keys : List (Option Expr)) (values : List Expr) (trs : List (DTE × DTE)) : Prop where
  mono : MonoP trs
  pps : PPs X pos keys values (trs.map fun p => (liftV X.K Γ p.1, liftV X.K Γ p.2))
theorem dps_nil0 {pos : Pos} : DPs X Γ pos [] [] [] := ⟨fun _ h => (by cases h), pps_nil⟩
theorem dps_cons0 {pos : Pos} {k v : Expr} {ks : List (Option Expr)} {vs : List Expr} {tk tv : DTE} {trs : List (DTE × DTE)} (hk : DE X Γ k tk) (hv : DE X Γ v tv) (hr : DPs X Γ pos ks vs trs) : DPs X Γ pos (some k :: ks) (v :: vs) ((tk, tv) :: trs) :=
  ⟨fun p hp => by
    rcases List.mem_cons.mp hp with q | q
    · subst q; exact ⟨hk.mono, hv.mono⟩
    · exact hr.mono p q, pps_cons hk.pe hv.pe hr.pps⟩
abbrev RPs (K : PySem.W.Frag) (Γ : GI) (H : Hp) (h : MH) : List (SV × SV) → List (V × V) → Prop := Paired fun p q => RV K Γ H h p.1 q.1 ∧ RV K Γ H h p.2 q.2
theorem pairs_lift {K : PySem.W.Frag} : ∀ {trs : List (DTE × DTE)}, MonoP trs → ∀ {σ : L2.St} {σd : DSt} {H : Hp} {h : MH} {C : List (SV × SV) → MH → Prop} {P : List (V × V) → Hp → Prop}, RSt K Γ H h σd σ → RM K Γ H h → dPairs trs σd h C →
    (∀ qs h1 ps H1, PX Γ H h H1 h1 → RSt K Γ H1 h1 σd σ → RPs K Γ H1 h1 qs ps → RM K Γ H1 h1 → C qs h1 → P ps H1) → tPairs (trs.map fun p => (liftV K Γ p.1, liftV K Γ p.2)) σ H P
  | [], _, _, _, _, _, _, _, rs, rm, w, k => k _ _ _ _ PX.refl rs .nil rm w
  | (tk, tv) :: r, m, σ, σd, H, h, C, P, rs, rm, w, k =>
    lift_mk (m _ List.mem_cons_self).1 rs rm w fun x h1 v H1 px rs1 rx rm1 w1 => lift_mk (m _ List.mem_cons_self).2 rs1 rm1 w1 fun y h2 u H2 px2 rs2 ry rm2 w2 =>
      pairs_lift (trs := r) (fun p hp => m p (List.mem_cons_of_mem _ hp)) rs2 rm2 w2 fun qs h3 ps H3 px3 rs3 rq rm3 w3 => k _ _ _ _ ((px.trans px2).trans px3) rs3 (.cons ⟨(rx.up px2).up px3, ry.up px3⟩ rq) rm3 w3
def keysOf : List (SV × SV) → Option (List (Key × SV))
  | [] => some []
  | (x, y) :: r => match asKey x, keysOf r with
    | some k, some rs => some ((k, y) :: rs)
    | _, _ => none
theorem keysOf_ok {K : PySem.W.Frag} {H : Hp} {h : MH} : ∀ {qs : List (SV × SV)} {ps : List (V × V)} {rs : List (Key × SV)}, RPs K Γ H h qs ps → keysOf qs = some rs → ∃ kvs : List (Key × V), ps = kvs.map (fun kv => (kV kv.1, kv.2)) ∧ Paired (RPF K (Fz Γ H h)) rs kvs
  | [], _, _, r, e => by cases r; cases e; exact ⟨[], rfl, .nil⟩
  | (x, y) :: qs, _, rs, r, e => by
    cases r with
    | @cons _ q _ ps h1 h2 =>
      unfold keysOf at e
      split at e
      · rename_i k rs' e1 e2
        cases e
        obtain ⟨kvs, e3, e4⟩ := keysOf_ok h2 e2
        refine ⟨(k, q.2) :: kvs, ?_, .cons ⟨rfl, rv_rvf h1.2⟩ e4⟩
        rw [List.map_cons, e3, ← asKey_ok h1.1 e1]
      · cases e
def mergeS (acc more : List (Key × SV)) : List (Key × SV) := more.foldl (fun acc kv => putS acc kv.1 kv.2) acc
theorem mergeS_ok {K : PySem.W.Frag} {F : Hp} : ∀ {more : List (Key × SV)} {mv : List (Key × V)}, Paired (RPF K F) more mv → ∀ {acc : List (Key × SV)} {av : List (Key × V)}, Paired (RPF K F) acc av → Paired (RPF K F) (mergeS acc more) (mergeK av mv)
  | _, _, .nil, _, _, r => r
  | (k, y) :: more, (k', v) :: mv, .cons h t, acc, av, r => by
    obtain ⟨e1, e2⟩ := h
    have e1' : k = k' := e1
    subst e1'
    exact mergeS_ok t (putS_ok r e2)
def dDisp (trs : List (DTE × DTE)) : DTE := fun σ h Q => ∀ p, h p = none → dPairs trs σ (mput h p (.dct [])) fun ps h2 => match keysOf ps with
  | some kvs => h2 p = some (.dct []) ∧ kvs.length ≤ 15 ∧ Q (.own p) (mput h2 p (.dct (mergeS [] kvs)))
  | none => False
theorem de_disp {keys : List (Option Expr)} {values : List Expr} {trs : List (DTE × DTE)} (hp : DPs X Γ pos keys values trs) (hall : keys.all (·.isSome) = true := by rfl) (hl : keys.length = values.length := by rfl) (h0 : keys ≠ [] := by (intro z; cases z))
    (h15 : keys.length ≤ 15 := by decide) : DE X Γ (.Dict keys values pos) (dDisp trs) :=
  ⟨fun σ h Q Q' k w p hp0 => mono_pairs hp.mono _ _ _ _ (fun ps h2 w2 => by
    split at w2
    · exact ⟨w2.1, w2.2.1, k _ _ w2.2.2⟩
    · exact w2) (w p hp0), pe_imp (pe_disp hp.pps hall hl h0 h15) fun σ H Q ⟨σd, h, rs, rm, w⟩ p hp0 => by
    obtain ⟨a, b, c⟩ := own_newG (o := .dct []) (u := .dK []) hp0 rm (show Paired _ _ _ from .nil)
    refine pairs_lift hp.mono (rs.up a) b (w p c) fun qs h1 ps H1 px rs1 rq rm1 w1 => ?_
    split at w1
    · rename_i kvs e1
      obtain ⟨w1, w2, w3⟩ := w1
      obtain ⟨vs, e2, e3⟩ := keysOf_ok rq e1
      obtain ⟨u0, f1, f2⟩ := ro_at (rm1.ob _ _ w1)
      cases u0 <;> first | exact f2.elim | skip
      rename_i ks
      have hk : ks = [] := by
        have z := pairs_len (show Paired _ _ _ from f2)
        exact List.eq_nil_of_length_eq_zero (by simpa using z.symm)
      subst hk
      have px2 : PX Γ H1 h1 (upd H1 p (.dK (mergeK [] vs))) (mput h1 p (.dct (mergeS [] kvs))) := put_px w1 rm1
      exact ⟨f1, vs, e2, by rw [← pairs_len e3]; exact w2, w3 (.ref p) _ ((a.trans px).trans px2) rfl (put_rmG w1 rm1 (show Paired _ _ _ from mergeS_ok e3 .nil))⟩
    · exact w1.elim⟩
/-! d.get(k), d.get(k, x), d.pop(k, x) -/
def dDGet1 (to ti : DTE) : DTE := fun σ h Q => to σ h fun x h1 => match asDc h1 x with
  | some _ => ti σ h1 fun y h2 => match asDc h2 x, asKey y with
    | some p, some k => Q ((valS p.2 k).getD (.d .none)) h2
    | _, _ => False
  | none => False
def dDGet2 (to ti tx : DTE) : DTE := fun σ h Q => to σ h fun x h1 => match asDc h1 x with
  | some _ => ti σ h1 fun y h2 => tx σ h2 fun z h3 => match asDc h3 x, asKey y with
    | some p, some k => Q ((valS p.2 k).getD z) h3
    | _, _ => False
  | none => False
def dDPop2 (to ti tx : DTE) : DTE := fun σ h Q => to σ h fun x h1 => match asDc h1 x with
  | some _ => ti σ h1 fun y h2 => tx σ h2 fun z h3 => match asDc h3 x, asKey y with
    | some p, some k => match valS p.2 k with
      | some v => Q v (mput h3 p.1 (.dct (dropS p.2 k)))
      | none => Q z h3
    | _, _ => False
  | none => False
theorem m1_of {m : Str} (base : attributeBase o m X.env (eval o X.env) = eval o X.env := by rfl)
    (few : ((backTo cpos (starEach [e] X.env)).all (fun x => !x.1) && (backToKw cpos (keywordEach [] X.env)).all (fun x => x.1.isSome) && decide (([e] : List Expr).length + ([] : List Keyword).length + (if ([] : List Keyword).isEmpty then 0 else 1) < 30)) = true := by rfl)
    (line : (apos.endLine == cpos.line) = true := by rfl) (trees : backTo cpos (starEach [e] X.env) = [(false, eval e X.env)] := by rfl) : M1 X o m apos e cpos := ⟨base, few, line, trees⟩
theorem m2_of {m : Str} (base : attributeBase o m X.env (eval o X.env) = eval o X.env := by rfl)
    (few : ((backTo cpos (starEach [e, f] X.env)).all (fun x => !x.1) && (backToKw cpos (keywordEach [] X.env)).all (fun x => x.1.isSome) && decide (([e, f] : List Expr).length + ([] : List Keyword).length + (if ([] : List Keyword).isEmpty then 0 else 1) < 30)) = true := by rfl)
    (line : (apos.endLine == cpos.line) = true := by rfl) (trees : backTo cpos (starEach [e, f] X.env) = [(false, eval e X.env), (false, eval f X.env)] := by rfl) : M2 X o m apos e f cpos := ⟨base, few, line, trees⟩
theorem valS_get {K : PySem.W.Frag} {F : Hp} {k : Key} {ps : List (Key × SV)} {kvs : List (Key × V)} (r : Paired (RPF K F) ps kvs) {z : SV} {v : V} (rz : RVF K F z v) : RVF K F ((valS ps k).getD z) ((valV kvs k).getD v) := by
  cases q : valS ps k with
  | none => rw [(valS_ok r).2 q]; exact rz
  | some y =>
    obtain ⟨w, e1, e2⟩ := (valS_ok r).1 y q
    rw [e1]; exact e2
theorem de_dget1 (hu : X.A.units + 1 < cLine) (ho : DE X Γ o to) (he : DE X Γ e ti) (m : M1 X o "get" apos e cpos) : DE X Γ (.Call (.Attribute o "get" apos) [e] [] cpos) (dDGet1 to ti) :=
  ⟨fun σ h Q Q' k w => ho.mono _ _ _ _ (fun x h1 w1 => by
    split at w1
    · exact he.mono _ _ _ _ (fun y h2 w2 => by
        split at w2
        · exact k _ _ w2
        · exact w2) w1
    · exact w1) w, pe_imp (pe_dget1 hu ho.pe he.pe m) fun σ H Q ⟨σd, h, rs, rm, w⟩ => lift_mk ho.mono rs rm w fun x h1 v H1 px rs1 rv rm1 w1 => by
    split at w1
    · rename_i p e1
      obtain ⟨e2, e3, kvs, e4, e5⟩ := dc_at rm1 rv e1
      refine ⟨p.1, e2, .inl ⟨kvs, .inl e4⟩, lift_mk he.mono rs1 rm1 w1 fun y h2 u H2 px2 rs2 ry rm2 w2 => ?_⟩
      split at w2
      · rename_i p2 k f1 f2
        obtain ⟨g2, g3, kvs2, g4, g5⟩ := dc_at rm2 (rv.up px2) f1
        have ea : p.1 = p2.1 := V.ref.inj (e2.symm.trans g2)
        rw [ea]
        exact ⟨valV kvs2 k, by rw [asKey_ok ry f2]; exact DGet.k g4, w2 _ _ (px.trans px2) (rvf_rv (valS_get g5 (show RVF _ _ _ _ from Dp.non))) rm2⟩
      · exact w2.elim
    · exact w1.elim⟩
theorem de_dget2 (hu : X.A.units + 1 < cLine) (ho : DE X Γ o to) (he : DE X Γ e ti) (hf : DE X Γ f tx) (m : M2 X o "get" apos e f cpos) : DE X Γ (.Call (.Attribute o "get" apos) [e, f] [] cpos) (dDGet2 to ti tx) :=
  ⟨fun σ h Q Q' k w => ho.mono _ _ _ _ (fun x h1 w1 => by
    split at w1
    · exact he.mono _ _ _ _ (fun y h2 w2 => hf.mono _ _ _ _ (fun z h3 w3 => by
        split at w3
        · exact k _ _ w3
        · exact w3) w2) w1
    · exact w1) w, pe_imp (pe_dget2 hu ho.pe he.pe hf.pe m) fun σ H Q ⟨σd, h, rs, rm, w⟩ => lift_mk ho.mono rs rm w fun x h1 v H1 px rs1 rv rm1 w1 => by
    split at w1
    · rename_i p e1
      obtain ⟨e2, e3, kvs, e4, e5⟩ := dc_at rm1 rv e1
      refine ⟨p.1, e2, .inl ⟨kvs, .inl e4⟩, lift_mk he.mono rs1 rm1 w1 fun y h2 u H2 px2 rs2 ry rm2 w2 => lift_mk hf.mono rs2 rm2 w2 fun z h3 w' H3 px3 rs3 rz rm3 w3 => ?_⟩
      split at w3
      · rename_i p2 k f1 f2
        obtain ⟨g2, g3, kvs2, g4, g5⟩ := dc_at rm3 ((rv.up px2).up px3) f1
        have ea : p.1 = p2.1 := V.ref.inj (e2.symm.trans g2)
        rw [ea]
        exact ⟨valV kvs2 k, by rw [asKey_ok ry f2]; exact DGet.k g4, w3 _ _ ((px.trans px2).trans px3) (rvf_rv (valS_get g5 (rv_rvf rz))) rm3⟩
      · exact w3.elim
    · exact w1.elim⟩
theorem de_dpop2 (ho : DE X Γ o to) (he : DE X Γ e ti) (hf : DE X Γ f tx) (m : M2 X o "pop" apos e f cpos) : DE X Γ (.Call (.Attribute o "pop" apos) [e, f] [] cpos) (dDPop2 to ti tx) :=
  ⟨fun σ h Q Q' k w => ho.mono _ _ _ _ (fun x h1 w1 => by
    split at w1
    · exact he.mono _ _ _ _ (fun y h2 w2 => hf.mono _ _ _ _ (fun z h3 w3 => by
        split at w3
        · split at w3
          · exact k _ _ w3
          · exact k _ _ w3
        · exact w3) w2) w1
    · exact w1) w, pe_imp (pe_dpop2 ho.pe he.pe hf.pe m) fun σ H Q ⟨σd, h, rs, rm, w⟩ => lift_mk ho.mono rs rm w fun x h1 v H1 px rs1 rv rm1 w1 => by
    split at w1
    · rename_i p e1
      obtain ⟨e2, e3, kvs, e4, e5⟩ := dc_at rm1 rv e1
      refine ⟨p.1, e2, .inl ⟨kvs, .inl e4⟩, lift_mk he.mono rs1 rm1 w1 fun y h2 u H2 px2 rs2 ry rm2 w2 => lift_mk hf.mono rs2 rm2 w2 fun z h3 w' H3 px3 rs3 rz rm3 w3 => ?_⟩
      split at w3
      · rename_i p2 k f1 f2
        obtain ⟨g2, g3, kvs2, g4, g5⟩ := dc_at rm3 ((rv.up px2).up px3) f1
        have ea : p.1 = p2.1 := V.ref.inj (e2.symm.trans g2)
        rw [ea]
        refine ⟨kvs2, k, g4, asKey_ok ry f2, fun v' hv => ?_, fun hn => ?_⟩
        · cases q : valS p2.2 k with
          | none => rw [(valS_ok g5).2 q] at hv; cases hv
          | some y' =>
            rw [q] at w3
            obtain ⟨w2', h1', h2'⟩ := (valS_ok g5).1 y' q
            rw [h1'] at hv
            cases hv
            have px4 : PX Γ H3 h3 (upd H3 p2.1 (.dK (dropK kvs2 k))) (mput h3 p2.1 (.dct (dropS p2.2 k))) := put_px g3 rm3
            exact w3 _ _ (((px.trans px2).trans px3).trans px4) ((rvf_rv h2').up px4) (put_rmG g3 rm3 (show Paired _ _ _ from dropS_ok g5))
        · cases q : valS p2.2 k with
          | none => rw [q] at w3; exact w3 _ _ ((px.trans px2).trans px3) rz rm3
          | some y' =>
            obtain ⟨w2', h1', h2'⟩ := (valS_ok g5).1 y' q
            rw [h1'] at hn
            cases hn
      · exact w3.elim
    · exact w1.elim⟩
/-! dict(a list of pairs) -/
def pairsD : List PyData → Option (List (Key × SV))
  | [] => some []
  | .tuple [k, v] :: r => match keyP k, pairsD r with
    | some k, some rs => some ((k, .d v) :: rs)
    | _, _ => none
  | _ => none
def rdDictOf : DRA := fun xs h Q => match xs with
  | [x] => match asL h x with
    | some ds => match pairsD ds with
      | some kvs => ∀ p, h p = none → Q (.own p) (mput h p (.dct (mergeS [] kvs)))
      | none => False
    | none => False
  | _ => False
theorem pairsD_ok {K : PySem.W.Frag} {F : Hp} : ∀ {ds : List PyData} {vs : List V} {kvs : List (Key × SV)}, DpAll K F vs ds → pairsD ds = some kvs → ∃ (ps : List Addr) (ks : List (Key × V)), vs = ps.map V.ref ∧ Paired (fun p kv => SqT K F p [kV kv.1, kv.2]) ps ks ∧ Paired (RPF K F) kvs ks
  | [], _, _, r, e => by cases r; cases e; exact ⟨[], [], rfl, .nil, .nil⟩
  | d :: ds, _, kvs, r, e => by
    cases r with
    | cons h1 h2 =>
      unfold pairsD at e
      split at e
      · rename_i e0; cases e0
      · rename_i k0 v0 r0 e0
        cases e0
        split at e
        · rename_i k rs e1 e2
          cases e
          obtain ⟨ps, ks, q1, q2, q3⟩ := pairsD_ok h2 e2
          cases h1 with
          | @tup a us _ hs hall =>
            cases hall with
            | @cons u1 _ us2 _ a1 a2 =>
              cases a2 with
              | @cons u2 _ us3 _ b1 b2 =>
                cases b2
                have ek : u1 = kV k := by
                  cases k0 with
                  | int i => cases e1; cases a1; rfl
                  | str z => cases e1; cases a1; rfl
                  | _ => cases e1
                subst ek
                exact ⟨a :: ps, (k, u2) :: ks, by rw [List.map_cons, q1], .cons hs q2, .cons ⟨rfl, b1⟩ q3⟩
        · cases e
      · cases e
theorem la_dictOf {K : PySem.W.Frag} : LRA K Γ rdDictOf (fun xs H Q => ∃ (a : Addr) (ps : List Addr) (kvs : List (Key × V)), xs = [.ref a] ∧ SqL K H a (ps.map V.ref) ∧ Paired (fun p kv => SqT K H p [kV kv.1, kv.2]) ps kvs ∧ ∀ p, H p = none → Q (.ref p) (upd H p (.dK (mergeK [] kvs)))) := by
  refine ⟨fun xs h Q Q' k w => ?_, fun xs vs H h C Q r rm w k => ?_⟩
  · unfold rdDictOf at w ⊢
    split at w
    · split at w
      · split at w
        · exact fun p hp => k _ _ (w p hp)
        · exact w
      · exact w
    · exact w
  · unfold rdDictOf at w
    split at w
    · obtain ⟨v, rfl, rv⟩ := rvs1 r
      split at w
      · rename_i ds e1
        obtain ⟨a, vs, rfl, s1, d1⟩ := asL_ok rv rm e1
        split at w
        · rename_i kvs e2
          obtain ⟨ps, ks, q1, q2, q3⟩ := pairsD_ok d1 e2
          subst q1
          refine ⟨a, ps, ks, rfl, s1, paired_imp (fun _ _ => sqT_up fz_sub) q2, fun p hp => ?_⟩
          obtain ⟨x1, x2, x3⟩ := own_newG (o := .dct (mergeS [] kvs)) (u := .dK (mergeK [] ks)) hp rm (show Paired _ _ _ from mergeS_ok q3 .nil)
          exact k (.own p) _ _ _ x1 (show RV K Γ _ _ (.own p) (.ref p) from rfl) x2 (w p x3)
        · exact w.elim
      · exact w.elim
    · exact w.elim
/-! a, .., z = a tuple that is one's own -/
def setAllS : List Nat → List SV → DSt → DSt
  | i :: r, d :: ds, σ => setAllS r ds (σ.set i (some d))
  | _, _, σ => σ
theorem rawGsS_ok {K : PySem.W.Frag} {H : Hp} {h : MH} {Q : L2.St → Hp → Prop} : ∀ {is : List Nat} {vs : List V} {ds : List SV} {σd : DSt} {σ : L2.St}, Paired (RVF K (Fz Γ H h)) ds vs → ds.length = is.length → RSt K Γ H h σd σ →
    (∀ σ', RSt K Γ H h (setAllS is ds σd) σ' → Q σ' H) → rawGs is vs σ H Q
  | [], _, [], _, _, hd, _, rs, k => by cases hd; exact ⟨rfl, k _ rs⟩
  | [], _, _ :: _, _, _, _, hl, _, _ => by simp at hl
  | _ :: _, _, [], _, _, _, hl, _, _ => by simp at hl
  | i :: r, _, d :: ds, σd, σ, hd, hl, rs, k => by
    cases hd with
    | cons h1 h2 =>
      refine ⟨_, _, rfl, ?_⟩
      exact rawGsS_ok h2 (by simpa using hl) (rs.set (rvf_rv h1)) fun σ' rs' => k σ' rs'
def asTp (h : MH) : SV → Option (Addr × List SV)
  | .own a => match h a with
    | some (.tpl xs) => some (a, xs)
    | _ => none
  | .d _ => none
theorem asTp_ok {h : MH} {x : SV} {p : Addr × List SV} (e : asTp h x = some p) : x = .own p.1 ∧ h p.1 = some (.tpl p.2) := by
  cases x with
  | d _ => cases e
  | own b =>
    cases q : h b with
    | none => simp only [asTp, q] at e; cases e
    | some m => cases m <;> simp only [asTp, q] at e <;> cases e <;> exact ⟨rfl, q⟩
theorem tp_at {K : PySem.W.Frag} {Γ : GI} {H : Hp} {h : MH} {x : SV} {v : V} {p : Addr × List SV} (rm : RM K Γ H h) (rv : RV K Γ H h x v) (e : asTp h x = some p) : ∃ vs, v = .ref p.1 ∧ h p.1 = some (.tpl p.2) ∧ H p.1 = some (.tup vs) ∧ Paired (RVF K (Fz Γ H h)) p.2 vs := by
  obtain ⟨ex, ea⟩ := asTp_ok e
  subst ex
  obtain ⟨u0, f1, f2⟩ := ro_at (rm.ob _ _ ea)
  cases u0 <;> first | exact f2.elim | skip
  exact ⟨_, rv, ea, f1, f2⟩
def dUnp (te : DTE) (is : List Nat) : DTS := fun D σ h => te σ h fun x h1 => match asTp h1 x with
  | some p => p.2.length = is.length ∧ D.nx (setAllS is p.2 σ) h1
  | none => match bindT (.tup is) x σ with
    | some σ' => D.nx σ' h1
    | none => False
theorem ds_unp {tg : Expr} {is : List Nat} {e : Expr} {te : DTE} (he : DE X Γ e te) (hg : DG X tg (.tup is)) (hs : swapsWithSole [tg] e pos.line X.env = pure false := by rfl) (hw : swappedStores [tg] e X.env = pure none := by rfl)
    (h1 : (assignEach [tg] X.env).map (·.2) = [assign tg X.env] := by rfl) : DS X Γ (.Assign [tg] e pos) (dUnp te is) :=
  ⟨fun D D' σ h l w => he.mono _ _ _ _ (fun x h1 w1 => by
    split at w1
    · exact ⟨w1.1, l.nx _ _ w1.2⟩
    · split at w1
      · exact l.nx _ _ w1
      · exact w1) w, ps_imp (ps_asg he.pe hg.pg hs hw h1) fun D σ H ⟨σd, h, rs, rm, w⟩ =>
    lift_mk he.mono rs rm w fun x h1 v H1 px rs1 rv rm1 w1 => by
      split at w1
      · rename_i p e1
        obtain ⟨vs, e2, e3, e4, e5⟩ := tp_at rm1 rv e1
        exact ⟨p.1, vs, e2, SqT.of e4, by rw [← pairs_len e5]; exact w1.1, rawGsS_ok e5 w1.1 rs1 fun σr rs' => w1.2 σr H1 px rs' rm1⟩
      · split at w1
        · rename_i σ' e1
          exact rawT_okS rv rs1 rm1 e1 fun σr H2 px2 rm2 rs' _ => w1 σr H2 (px.trans px2) rs' rm2
        · exact w1.elim⟩
end
/-! steps -/
section
variable {σ : DSt} {h : MH} {Q : DK} {QA : List SV → MH → Prop} {D : DEnds} {x y z : SV} {ta tb tc tk tv to ti tx te : DTE} {tA : DTA} {a p : Addr} {trs : List (DTE × DTE)} {QP : List (SV × SV) → MH → Prop} {xs : List SV} {ps : List (Key × SV)} {k' : Key}
theorem e_dNewD (k : ∀ p, h p = none → Q (.own p) (mput h p (.dct []))) : dNewD σ h Q := k
def tupOK (Q : DK) : List SV → MH → Prop := fun xs h1 => xs.length ≤ sizeLine ∧ ∀ p, h1 p = none → Q (.own p) (mput h1 p (.tpl xs))
theorem e_tupO (k : tA σ h (tupOK Q)) : dTupO tA σ h Q := k
theorem k_tupO (c : Nat.ble xs.length 16777216 = true) (k : ∀ p, h p = none → Q (.own p) (mput h p (.tpl xs))) : tupOK Q xs h := ⟨by rw [sizeLine_eq]; exact Nat.le_of_ble_eq_true c, k⟩
def lstOK (Q : DK) : List SV → MH → Prop := fun xs h1 => xs.length ≤ sizeLine ∧ ∀ p, h1 p = none → Q (.own p) (mput h1 p (.seq xs))
theorem e_lstO (k : tA σ h (lstOK Q)) : dLstO tA σ h Q := k
theorem k_lstO (c : Nat.ble xs.length 16777216 = true) (k : ∀ p, h p = none → Q (.own p) (mput h p (.seq xs))) : lstOK Q xs h := ⟨by rw [sizeLine_eq]; exact Nat.le_of_ble_eq_true c, k⟩
theorem e_prC (k : tk σ h fun x h1 => tv σ h1 fun y h2 => dPairs trs σ h2 fun ps h3 => QP ((x, y) :: ps) h3) : dPairs ((tk, tv) :: trs) σ h QP := k
theorem e_prN (k : QP [] h) : dPairs [] σ h QP := k
def dispK (Q : DK) (p : Addr) : List (SV × SV) → MH → Prop := fun ps h2 => match keysOf ps with
  | some kvs => h2 p = some (.dct []) ∧ kvs.length ≤ 15 ∧ Q (.own p) (mput h2 p (.dct (mergeS [] kvs)))
  | none => False
theorem e_disp (k : ∀ p, h p = none → dPairs trs σ (mput h p (.dct [])) (dispK Q p)) : dDisp trs σ h Q := k
theorem k_disp {qs : List (SV × SV)} {kvs rs : List (Key × SV)} (e : keysOf qs = some kvs) (e2 : h p = some (.dct [])) (c : Nat.ble kvs.length 15 = true) (em : mergeS [] kvs = rs) (k : Q (.own p) (mput h p (.dct rs))) : dispK Q p qs h := by
  unfold dispK
  rw [e]
  subst em
  exact ⟨e2, Nat.le_of_ble_eq_true c, k⟩
def unpK (is : List Nat) (D : DEnds) (σ : DSt) : DK := fun x h1 => match asTp h1 x with
  | some p => p.2.length = is.length ∧ D.nx (setAllS is p.2 σ) h1
  | none => match bindT (.tup is) x σ with
    | some σ' => D.nx σ' h1
    | none => False
theorem e_unp {is : List Nat} (k : te σ h (unpK is D σ)) : dUnp te is D σ h := k
theorem k_unp {is : List Nat} {σ' : DSt} (e : h a = some (.tpl xs)) (hl : xs.length = is.length) (es : setAllS is xs σ = σ') (k : D.nx σ' h) : unpK is D σ (.own a) h := by
  have q : asTp h (.own a) = some (a, xs) := by simp only [asTp, e]
  unfold unpK
  rw [q]
  subst es
  exact ⟨hl, k⟩
theorem asDc_own (e : h a = some (.dct ps)) : asDc h (.own a) = some (a, ps) := by simp only [asDc, e]
def get1K (ti : DTE) (σ : DSt) (Q : DK) : DK := fun x h1 => match asDc h1 x with
  | some _ => ti σ h1 fun y h2 => match asDc h2 x, asKey y with
    | some p, some k => Q ((valS p.2 k).getD (.d .none)) h2
    | _, _ => False
  | none => False
theorem e_get1 (k : to σ h (get1K ti σ Q)) : dDGet1 to ti σ h Q := k
def get1E (x : SV) (Q : DK) : DK := fun y h2 => match asDc h2 x, asKey y with
  | some p, some k => Q ((valS p.2 k).getD (.d .none)) h2
  | _, _ => False
theorem k_get1 (e : h a = some (.dct ps)) (k : ti σ h (get1E (.own a) Q)) : get1K ti σ Q (.own a) h := by unfold get1K; rw [asDc_own e]; exact k
theorem k_get1E (e : h a = some (.dct ps)) (e2 : asKey y = some k') {v : SV} (e3 : (valS ps k').getD (.d .none) = v) (k : Q v h) : get1E (.own a) Q y h := by
  unfold get1E
  rw [asDc_own e, e2]
  subst e3
  exact k
end
end DL

namespace DL
open PySem PySem.Spec PyProof.Rows L2
set_option autoImplicit true

/-! ## walks over what is one's own, item by item as it is at each turn -/
def itemsO (b : Bool) : MO → Option (List SV)
  | .lst xs => if b = true then none else some (xs.map SV.d)
  | .seq xs => if b = true then none else some xs
  | .tpl xs => if b = true then some xs else none
  | _ => none
def JO (K : PySem.W.Frag) (b : Bool) (a : Addr) : It := if b = true then Itt K a else Itl K a
theorem dps_pair {K : PySem.W.Frag} {F : Hp} : ∀ {ds : List PyData} {vs : List V}, DpAll K F vs ds → Paired (RVF K F) (ds.map SV.d) vs
  | [], _, r => by cases r; exact .nil
  | _ :: _, _, r => by
    cases r with
    | cons h t => exact .cons h (dps_pair t)
theorem itemsO_ok {K : PySem.W.Frag} {Γ : GI} {H : Hp} {h : MH} {a : Addr} {o : MO} {b : Bool} {xs : List SV} (rm : RM K Γ H h) (e : h a = some o) (e2 : itemsO b o = some xs) :
    ∃ vs, Paired (RVF K (Fz Γ H h)) xs vs ∧ ((b = false ∧ SqL K H a vs) ∨ (b = true ∧ SqT K H a vs)) := by
  obtain ⟨u, f1, f2⟩ := ro_at (rm.ob a o e)
  cases o with
  | lst ds =>
    cases b with
    | true => simp [itemsO] at e2
    | false =>
      simp [itemsO] at e2
      subst e2
      cases u <;> first | exact f2.elim | skip
      exact ⟨_, dps_pair f2, .inl ⟨rfl, SqL.of f1⟩⟩
  | seq ys =>
    cases b with
    | true => simp [itemsO] at e2
    | false =>
      simp [itemsO] at e2
      subst e2
      cases u <;> first | exact f2.elim | skip
      exact ⟨_, f2, .inl ⟨rfl, SqL.of f1⟩⟩
  | tpl ys =>
    cases b with
    | false => simp [itemsO] at e2
    | true =>
      simp [itemsO] at e2
      subst e2
      cases u <;> first | exact f2.elim | skip
      exact ⟨_, f2, .inr ⟨rfl, SqT.of f1⟩⟩
  | _ => simp [itemsO] at e2
theorem jo_stop {K : PySem.W.Frag} {H : Hp} {a : Addr} {b : Bool} {vs : List V} {i : Nat} (s : (b = false ∧ SqL K H a vs) ∨ (b = true ∧ SqT K H a vs)) (hl : vs.length ≤ i) : (JO K b a).stop i H := by
  rcases s with ⟨rfl, s⟩ | ⟨rfl, s⟩
  · exact ⟨vs, s, hl⟩
  · exact ⟨vs, s, hl⟩
theorem jo_go {K : PySem.W.Frag} {H : Hp} {a : Addr} {b : Bool} {vs : List V} {i : Nat} {v : V} (s : (b = false ∧ SqL K H a vs) ∨ (b = true ∧ SqT K H a vs)) (e : vs[i]? = some v) : (JO K b a).go i H := by
  rcases s with ⟨rfl, s⟩ | ⟨rfl, s⟩
  · exact ⟨vs, v, s, e⟩
  · exact ⟨vs, v, s, e⟩
theorem jo_yld {K : PySem.W.Frag} {H H' : Hp} {a : Addr} {b : Bool} {vs : List V} {i : Nat} {v x : V} (s : (b = false ∧ SqL K H a vs) ∨ (b = true ∧ SqT K H a vs)) (e : vs[i]? = some v) (y : (JO K b a).yld i H x H') : H' = H ∧ x = v := by
  rcases s with ⟨rfl, s⟩ | ⟨rfl, s⟩
  · obtain ⟨y1, y2⟩ := y
    have z := y2 vs s
    rw [e] at z
    exact ⟨y1, (Option.some.inj z).symm⟩
  · obtain ⟨y1, y2⟩ := y
    have z := y2 vs s
    rw [e] at z
    exact ⟨y1, (Option.some.inj z).symm⟩
/-- a target that takes what is one's own, too -/
def bindS (g : Tg) (x : SV) (h : MH) (σ : DSt) : Option DSt := match asTp h x, g with
  | some p, .tup is => if p.2.length = is.length then some (setAllS is p.2 σ) else none
  | some _, .nm i => some (σ.set i (some x))
  | some _, .star _ _ => none
  | none, g => bindT g x σ
theorem rawGsS_okW {K : PySem.W.Frag} {H : Hp} {h : MH} {Q : L2.St → Hp → Prop} : ∀ {is : List Nat} {vs : List V} {ds : List SV} {σd : DSt} {σ : L2.St}, Paired (RVF K (Fz Γ H h)) ds vs → ds.length = is.length → RSt K Γ H h σd σ →
    (∀ σ', RSt K Γ H h (setAllS is ds σd) σ' → (∀ l, (∀ i ∈ is, i ∈ l) → wipe σ' l = wipe σ l) → Q σ' H) → rawGs is vs σ H Q
  | [], _, [], _, _, hd, _, rs, k => by cases hd; exact ⟨rfl, k _ rs fun _ _ => rfl⟩
  | [], _, _ :: _, _, _, _, hl, _, _ => by simp at hl
  | _ :: _, _, [], _, _, _, hl, _, _ => by simp at hl
  | i :: r, _, d :: ds, σd, σ, hd, hl, rs, k => by
    cases hd with
    | cons h1 h2 =>
      refine ⟨_, _, rfl, ?_⟩
      exact rawGsS_okW h2 (by simpa using hl) (rs.set (rvf_rv h1)) fun σ' rs' hw => k σ' rs' fun l hl' => by
        rw [hw l fun j hj => hl' j (List.mem_cons_of_mem _ hj), wipe_set (hl' i List.mem_cons_self)]
theorem rawS_okS {K : PySem.W.Frag} {H : Hp} {h : MH} {g : Tg} {x : SV} {v : V} {σd σd' : DSt} {σ : L2.St} {Q : L2.St → Hp → Prop} (rv : RV K Γ H h x v) (rs : RSt K Γ H h σd σ) (rm : RM K Γ H h) (e : bindS g x h σd = some σd')
    (k : ∀ σ' H', PX Γ H h H' h → RM K Γ H' h → RSt K Γ H' h σd' σ' → (∀ l, (∀ i ∈ g.ix, i ∈ l) → wipe σ' l = wipe σ l) → Q σ' H') : rawT K g v σ H Q := by
  unfold bindS at e
  cases q : asTp h x with
  | none => rw [q] at e; exact rawT_okS rv rs rm e k
  | some p =>
    rw [q] at e
    cases g with
    | nm i =>
      cases e
      exact k _ _ PX.refl rm (rs.set rv) fun l hl => wipe_set (hl i List.mem_cons_self)
    | star is z => cases e
    | tup is =>
      obtain ⟨vs, e2, e3, e4, e5⟩ := tp_at rm rv q
      have e' : (if p.2.length = is.length then some (setAllS is p.2 σd) else none) = some σd' := e
      by_cases hl : p.2.length = is.length
      · rw [if_pos hl] at e'
        cases e'
        exact ⟨p.1, vs, e2, SqT.of e4, by rw [← pairs_len e5]; exact hl, rawGsS_okW e5 hl rs fun σr rs' hw => k σr H PX.refl rm rs' hw⟩
      · rw [if_neg hl] at e'; cases e'
theorem rawS_ok {K : PySem.W.Frag} {H : Hp} {h : MH} {g : Tg} {x : SV} {v : V} {σd σd' : DSt} {σ : L2.St} {Q : L2.St → Hp → Prop} (ns : g.isStar = false) (rv : RV K Γ H h x v) (rs : RSt K Γ H h σd σ) (rm : RM K Γ H h) (e : bindS g x h σd = some σd')
    (k : ∀ σ', RSt K Γ H h σd' σ' → (∀ l, (∀ i ∈ g.ix, i ∈ l) → wipe σ' l = wipe σ l) → Q σ' H) : rawT K g v σ H Q := by
  unfold bindS at e
  cases q : asTp h x with
  | none => rw [q] at e; exact rawT_ok ns rv rs e k
  | some p =>
    rw [q] at e
    cases g with
    | nm i =>
      cases e
      exact k _ (rs.set rv) fun l hl => wipe_set (hl i List.mem_cons_self)
    | star is z => cases e
    | tup is =>
      obtain ⟨vs, e2, e3, e4, e5⟩ := tp_at rm rv q
      have e' : (if p.2.length = is.length then some (setAllS is p.2 σd) else none) = some σd' := e
      by_cases hl : p.2.length = is.length
      · rw [if_pos hl] at e'
        cases e'
        exact ⟨p.1, vs, e2, SqT.of e4, by rw [← pairs_len e5]; exact hl, rawGsS_okW e5 hl rs fun σr rs' hw => k σr rs' hw⟩
      · rw [if_neg hl] at e'; cases e'
/-! ### for -/
def forO (b : Bool) (g : Tg) (tb : DTS) (D : DEnds) (a : Addr) : Nat → Nat → DSt → MH → Prop
  | 0, _, _, _ => False
  | n + 1, i, σ, h => match h a with
    | some o => match itemsO b o with
      | some xs => match xs[i]? with
        | none => D.nx σ h
        | some x => match bindS g x h σ with
          | some σ1 => tb { nx := fun σ' h' => forO b g tb D a n (i + 1) σ' h', ct := fun σ' h' => forO b g tb D a n (i + 1) σ' h', bk := D.nx, rt := D.rt } σ1 h
          | none => False
      | none => False
    | none => False
def forGK (g : Tg) (tb : DTS) (D : DEnds) (σ : DSt) : DK := fun x h1 => match x with
  | .own a => ∃ b n, forO b g tb D a n 0 σ h1
  | .d (.list ds) => forL g tb D ds σ h1
  | .d (.tuple ds) => forL g tb D ds σ h1
  | _ => False
def dForG (te : DTE) (g : Tg) (tb : DTS) : DTS := fun D σ h => te σ h (forGK g tb D σ)
theorem forO_le {b : Bool} {g : Tg} {tb : DTS} {a : Addr} (mb : MonoS tb) {D D' : DEnds} (l : DEnds.Le D D') : ∀ n i σ h, forO b g tb D a n i σ h → forO b g tb D' a n i σ h
  | 0, _, _, _, w => w
  | n + 1, i, σ, h, w => by
    unfold forO at w ⊢
    split at w
    · split at w
      · split at w
        · exact l.nx _ _ w
        · split at w
          · refine mb _ _ _ _ ?_ w
            exact ⟨forO_le mb l n (i + 1), l.rt, l.nx, forO_le mb l n (i + 1)⟩
          · exact w
      · exact w
    · exact w
theorem forGK_le {g : Tg} {tb : DTS} (mb : MonoS tb) {D D' : DEnds} (l : DEnds.Le D D') {σ : DSt} {x : SV} {h : MH} (w : forGK g tb D σ x h) : forGK g tb D' σ x h := by
  unfold forGK at w ⊢
  split at w
  · obtain ⟨b, n, w⟩ := w; exact ⟨b, n, forO_le mb l n 0 _ _ w⟩
  · exact forL_le mb l _ _ _ w
  · exact forL_le mb l _ _ _ w
  · exact w
section
variable {X : Cx} {e : Expr} {te : DTE} {tg iter : Expr} {pos : Pos}
theorem for_data {K : PySem.W.Frag} {g : Tg} {body : List Stmt} {tb : DTS} (hb : DSs X Γ body tb) {D : Ends} {σ : L2.St} {H H1 : Hp} {σd : DSt} {h h1 : MH} {ds : List PyData} {J : It} (px : PX Γ H h H1 h1) (rs : RSt X.K Γ H1 h1 σd σ) (rm1 : RM X.K Γ H1 h1) (gv : Gives X.K (Fz Γ H1 h1) J ds)
    (w1 : forL g tb (liftE X.K Γ H h D) ds σd h1) :
    ∃ W : Nat → Nat → L2.St → Hp → Prop, (∃ m, W 0 m σ H1) ∧ ∀ i m σ H, W i m σ H →
      (J.stop i H ∧ D.nx σ H) ∨ (J.go i H ∧ ∃ N : L2.St → Hp → Prop, (∀ σ' H', N σ' H' → ∃ m', m' < m ∧ W (i + 1) m' σ' H') ∧ ∀ x H', J.yld i H x H' → rawT X.K g x σ H' fun σ2 H2 => liftS X.K Γ tb { D with nx := N, ct := N, bk := D.nx } σ2 H2) := by
  refine for_it gv (g := rawT X.K g) (tb := liftS X.K Γ tb) (fun i σ' H' => ∃ σd' h', PX Γ H1 h1 H' h' ∧ RSt X.K Γ H' h' σd' σ' ∧ RM X.K Γ H' h' ∧ forL g tb (liftE X.K Γ H h D) (ds.drop i) σd' h') ⟨σd, h1, PX.refl, rs, rm1, by rw [List.drop_zero]; exact w1⟩ ?_ ?_ ?_
  · rintro i σ' H' _ ⟨σd', h', px', _, _, _⟩ a o e
    exact fz_sub a o (px'.ex a o e)
  · rintro i x σ' H' H2 hi' ⟨σd', h', px', rs', rm', w'⟩ ⟨_, d, e1, y⟩
    obtain ⟨p2, rm2, rv2⟩ := yd_in px'.ex rm' y
    have hdrop : ds.drop i = d :: ds.drop (i + 1) := by
      obtain ⟨hl, hz⟩ := List.getElem?_eq_some_iff.mp e1
      rw [List.drop_eq_getElem_cons hl, hz]
    rw [hdrop] at w'
    unfold forL at w'
    split at w'
    · rename_i σ1 e2
      refine rawT_okS rv2 (rs'.up p2) rm2 e2 fun σr H3 p2b rm3 rsr _ => ⟨σ1, h', rsr, rm3, ?_⟩
      refine hb.mono _ _ _ _ ?_ w'
      have p3 := (px'.trans p2).trans p2b
      have p4 := px.trans p3
      exact ⟨fun σd2 h2 w2 σ2 Hx q r2 m2 => ⟨σd2, h2, p3.trans q, r2, m2, w2⟩, fun x2 h2 w2 v2 Hx q r2 m2 => w2 v2 Hx (p4.trans q) r2 m2, fun σd2 h2 w2 σ2 Hx q r2 m2 => w2 σ2 Hx (p4.trans q) r2 m2, fun σd2 h2 w2 σ2 Hx q r2 m2 => ⟨σd2, h2, p3.trans q, r2, m2, w2⟩⟩
    · exact w'.elim
  · rintro σ' H' ⟨σd', h', px', rs', rm', w'⟩
    rw [List.drop_length] at w'
    exact w' σ' H' (px.trans px') rs' rm'
theorem for_own {g : Tg} {body : List Stmt} {tb : DTS} (hb : DSs X Γ body tb) {D : Ends} {σ : L2.St} {H H1 : Hp} {σd : DSt} {h h1 : MH} {a : Addr} {b : Bool} {n : Nat} (px : PX Γ H h H1 h1) (rs : RSt X.K Γ H1 h1 σd σ) (rm1 : RM X.K Γ H1 h1)
    (w1 : forO b g tb (liftE X.K Γ H h D) a n 0 σd h1) :
    ∃ W : Nat → Nat → L2.St → Hp → Prop, (∃ m, W 0 m σ H1) ∧ ∀ i m σ H, W i m σ H →
      ((JO X.K b a).stop i H ∧ D.nx σ H) ∨ ((JO X.K b a).go i H ∧ ∃ N : L2.St → Hp → Prop, (∀ σ' H', N σ' H' → ∃ m', m' < m ∧ W (i + 1) m' σ' H') ∧ ∀ x H', (JO X.K b a).yld i H x H' → rawT X.K g x σ H' fun σ2 H2 => liftS X.K Γ tb { D with nx := N, ct := N, bk := D.nx } σ2 H2) := by
  refine ⟨fun i m σ' H' => ∃ σd' h', PX Γ H1 h1 H' h' ∧ RSt X.K Γ H' h' σd' σ' ∧ RM X.K Γ H' h' ∧ forO b g tb (liftE X.K Γ H h D) a m i σd' h', ⟨n, σd, h1, PX.refl, rs, rm1, w1⟩, ?_⟩
  rintro i m σ' H' ⟨σd', h', px', rs', rm', w'⟩
  cases m with
  | zero => exact w'.elim
  | succ m =>
    unfold forO at w'
    split at w'
    · rename_i o e1
      split at w'
      · rename_i xs e2
        obtain ⟨vs, pr, sq⟩ := itemsO_ok rm' e1 e2
        split at w'
        · rename_i e3
          refine .inl ⟨jo_stop sq ?_, w' σ' H' (px.trans px') rs' rm'⟩
          rw [← pairs_len pr]
          exact List.getElem?_eq_none_iff.mp e3
        · rename_i x e3
          obtain ⟨v, e4, rv⟩ := pairs_get pr e3
          split at w'
          · rename_i σ1 e5
            refine .inr ⟨jo_go sq e4, fun σ2 H2 => ∃ σd2 h2, PX Γ H1 h1 H2 h2 ∧ RSt X.K Γ H2 h2 σd2 σ2 ∧ RM X.K Γ H2 h2 ∧ forO b g tb (liftE X.K Γ H h D) a m (i + 1) σd2 h2, fun σ2 H2 q => ⟨m, Nat.lt_succ_self m, q⟩, fun x' H2 y => ?_⟩
            obtain ⟨rfl, rfl⟩ := jo_yld sq e4 y
            refine rawS_okS (rvf_rv rv) rs' rm' e5 fun σr H3 p2b rm3 rsr _ => ⟨σ1, h', rsr, rm3, ?_⟩
            refine hb.mono _ _ _ _ ?_ w'
            have p3 := px'.trans p2b
            have p4 := px.trans p3
            exact ⟨fun σd2 h2 w2 σ2 Hx q r2 m2 => ⟨σd2, h2, p3.trans q, r2, m2, w2⟩, fun x2 h2 w2 v2 Hx q r2 m2 => w2 v2 Hx (p4.trans q) r2 m2, fun σd2 h2 w2 σ2 Hx q r2 m2 => w2 σ2 Hx (p4.trans q) r2 m2, fun σd2 h2 w2 σ2 Hx q r2 m2 => ⟨σd2, h2, p3.trans q, r2, m2, w2⟩⟩
          · exact w'.elim
      · exact w'.elim
    · exact w'.elim
theorem forO_at {K : PySem.W.Frag} {Γ : GI} {H : Hp} {h : MH} {a : Addr} {b : Bool} {g : Tg} {tb : DTS} {D : DEnds} {n : Nat} {σ : DSt} (rm : RM K Γ H h) (w : forO b g tb D a n 0 σ h) : ∃ vs, (b = false ∧ SqL K H a vs) ∨ (b = true ∧ SqT K H a vs) := by
  cases n with
  | zero => exact w.elim
  | succ n =>
    unfold forO at w
    split at w
    · rename_i o e1
      split at w
      · rename_i xs e2
        obtain ⟨vs, _, sq⟩ := itemsO_ok rm e1 e2
        exact ⟨vs, sq⟩
      · exact w.elim
    · exact w.elim
theorem ds_forG {body : List Stmt} {g : Tg} {tb : DTS} (hp : PassesOwn (model X.prog X.w) X.A X.env X.xe) (hc : X.calm = true) (hi : DE X Γ iter te) (hg : DG X tg g) (hb : DSs X Γ body tb)
    (hs : ∀ x, foldedSetIterable iter X.env x = pure x := by intro _; rfl) : DS X Γ (.For tg iter body [] pos) (dForG te g tb) :=
  ⟨fun D D' σ h l w => hi.mono _ _ _ _ (fun x h1 w1 => forGK_le hb.mono l w1) w, ps_imp (ps_for hp hc (pi_sq hi.pe) hg.pg hb.ps hs) fun D σ H ⟨σd, h, rs, rm, w⟩ =>
    lift_mk hi.mono rs rm w fun x h1 v H1 px rs1 rv rm1 w1 => by
      unfold forGK at w1
      split at w1
      · rename_i a
        obtain ⟨b, n, w1⟩ := w1
        have ev : v = .ref a := rv
        subst ev
        obtain ⟨vs, sq⟩ := forO_at rm1 w1
        have z := for_own hb px rs1 rm1 w1
        refine ⟨a, rfl, ?_⟩
        rcases sq with ⟨rfl, sq⟩ | ⟨rfl, sq⟩
        · exact .inl ⟨vs, sq, z⟩
        · exact .inr ⟨vs, sq, z⟩
      · rename_i ds
        have rv' : Dp X.K (Fz Γ H1 h1) v (.list ds) := rv
        cases rv' with
        | @lst a vs _ s1 dd => exact ⟨a, rfl, .inl ⟨vs, sqL_up fz_sub s1, for_data (K := X.K) hb px rs1 rm1 (gives_list s1 dd) w1⟩⟩
      · rename_i ds
        have rv' : Dp X.K (Fz Γ H1 h1) v (.tuple ds) := rv
        cases rv' with
        | @tup a vs _ s1 dd => exact ⟨a, rfl, .inr ⟨vs, sqT_up fz_sub s1, for_data (K := X.K) hb px rs1 rm1 (gives_tup s1 dd) w1⟩⟩
      · exact w1.elim⟩
end
end DL

namespace DL
open PySem PySem.Spec PyProof.Rows L2
set_option autoImplicit true

/-! ## comprehensions over what is one's own -/
def lcO (b : Bool) (g : Tg) (tt : DTT) (te : DTE) (σ : DSt) (a : Addr) : Nat → Nat → List PyData → MH → (List PyData → MH → Prop) → Prop
  | 0, _, _, _, _ => False
  | n + 1, i, acc, h, Q => match h a with
    | some o => match itemsO b o with
      | some xs => match xs[i]? with
        | none => Q acc h
        | some x => match bindS g x h σ with
          | some σ1 => tt σ1 h fun c h1 => if c = true then te σ1 h1 fun y h2 => match fz1 y h2 with
              | some (z, h3) => lcO b g tt te σ a n (i + 1) (acc ++ [z]) h3 Q
              | none => False
            else lcO b g tt te σ a n (i + 1) acc h1 Q
          | none => False
      | none => False
    | none => False
def lcGK (g : Tg) (tt : DTT) (te : DTE) (σ : DSt) (Q : List PyData → MH → Prop) : DK := fun x h1 => match x with
  | .own a => ∃ b n, n ≤ sizeLine ∧ lcO b g tt te σ a n 0 [] h1 Q
  | .d (.list ds) => ds.length ≤ sizeLine ∧ lcL g tt te σ ds [] h1 Q
  | .d (.tuple ds) => ds.length ≤ sizeLine ∧ lcL g tt te σ ds [] h1 Q
  | _ => False
def fLcG (tl : DTE) (g : Tg) (tt : DTT) (te : DTE) (vs : List Nat) : DTF := fun σ h Q => tl σ h (lcGK g tt te (wipeD σ vs) Q)
theorem lcO_mono {b : Bool} {g : Tg} {tt : DTT} {te : DTE} {σ : DSt} {a : Addr} (mt : Mono tt) (me : Mono te) {Q Q' : List PyData → MH → Prop} (k : ∀ x h, Q x h → Q' x h) : ∀ n i acc h, lcO b g tt te σ a n i acc h Q → lcO b g tt te σ a n i acc h Q'
  | 0, _, _, _, w => w
  | n + 1, i, acc, h, w => by
    unfold lcO at w ⊢
    split at w
    · split at w
      · split at w
        · exact k _ _ w
        · split at w
          · refine mt _ _ _ _ (fun c h1 w1 => ?_) w
            cases c with
            | true =>
              refine me _ _ _ _ (fun y h2 w2 => ?_) w1
              split at w2
              · exact lcO_mono mt me k n (i + 1) _ _ w2
              · exact w2
            | false => exact lcO_mono mt me k n (i + 1) _ _ w1
          · exact w
      · exact w
    · exact w
theorem lcGK_mono {g : Tg} {tt : DTT} {te : DTE} {σ : DSt} (mt : Mono tt) (me : Mono te) {Q Q' : List PyData → MH → Prop} (k : ∀ x h, Q x h → Q' x h) {x : SV} {h : MH} (w : lcGK g tt te σ Q x h) : lcGK g tt te σ Q' x h := by
  unfold lcGK at w ⊢
  split at w
  · obtain ⟨b, n, c, w⟩ := w; exact ⟨b, n, c, lcO_mono mt me k n 0 _ _ w⟩
  · exact ⟨w.1, lcL_mono mt me k _ _ _ w.2⟩
  · exact ⟨w.1, lcL_mono mt me k _ _ _ w.2⟩
  · exact w
theorem lc_own {K : PySem.W.Frag} {g : Tg} {tt : DTT} {te : DTE} {vs : List Nat} (mt : Mono tt) (me : Mono te) (hix : (g.ix.all (fun i => vs.contains i) && !g.isStar) = true) {σ : L2.St} {H H1 : Hp} {σd : DSt} {h h1 : MH} {Q : VK} {a D : Addr} {b : Bool} {n : Nat}
    (rs : RSt K Γ H h σd σ) (px : PX Γ H h H1 h1) (rm1 : RM K Γ H1 h1) (hD : H1 D = none) (hn : n ≤ sizeLine)
    (w1 : lcO b g tt te (wipeD σd vs) a n 0 [] h1 fun ds h' => ∀ ws H' p, PX Γ H h H' h' → DpAll K (Fz Γ H' h') ws ds → RM K Γ H' h' → H' p = none → Q (.ref p) (upd H' p (.lst ws))) :
    ∃ W : Nat → Nat → Hp → Prop, (∃ m, W 0 m (upd H1 D (.lst []))) ∧ ∀ i m H, W i m H →
      ((JO K b a).stop i H ∧ Q (.ref D) H) ∨ ((JO K b a).go i H ∧ ∃ Nx : Hp → Prop, (∀ H', Nx H' → ∃ m', m' < m ∧ W (i + 1) m' H') ∧ ∀ x H', (JO K b a).yld i H x H' → rawT K g x (L2.wipe σ vs) H' fun σ2 H2 => L2.wipe σ2 vs = L2.wipe σ vs ∧ (∃ Γ' : GI, Γ'.T = Γ.T ∧ liftB K Γ' tt σ2 H2 fun b H3 =>
        if b = true then (∃ Γ' : GI, Γ'.T = Γ.T ∧ liftV K Γ' te σ2 H3 fun y H4 => ∃ acc, H4 D = some (.lst acc) ∧ acc.length < sizeLine ∧ Nx (upd H4 D (.lst (acc ++ [y])))) else Nx H3)) := by
  have hsub : ∀ i, i ∈ g.ix → i ∈ vs := fun i hm => by simpa using List.all_eq_true.mp (Bool.and_eq_true_iff.mp hix).1 i hm
  have hns : g.isStar = false := by simpa using (Bool.and_eq_true_iff.mp hix).2
  have dx : D ∉ Γ.x := rm1.notx hD
  refine ⟨fun i m H' => i + m ≤ sizeLine ∧ ∃ h' acc, LcInv K Γ H1 h1 D (wipeD σd vs) (L2.wipe σ vs) i H' h' acc ∧ lcO b g tt te (wipeD σd vs) a m i acc h' (fun ds h' => ∀ ws H' p, PX Γ H h H' h' → DpAll K (Fz Γ H' h') ws ds → RM K Γ H' h' → H' p = none → Q (.ref p) (upd H' p (.lst ws))), ⟨n, by omega, h1, [], ?_, w1⟩, ?_⟩
  · have e0 : Sub (Fz Γ H1 h1) (Fz (Γ.more D) (upd H1 D (.lst [])) h1) := fun a o z => by
      obtain ⟨z1, z2, z3, z4⟩ := Fz.to z
      have ne := ne_of_none z1 hD
      exact Fz.of (by rw [upd_ne ne]; exact z1) z2 (fun m => (List.mem_cons.mp m).elim ne z3) z4
    refine ⟨⟨[], upd_same, .nil⟩, e0, fun a m => upd_ne fun z => dx (by rw [← z]; exact m), ⟨fun a m e => ?_, trivial, fun a m => ?_, tabs_upd rm1.tb (.inl hD)⟩, RSt.eqF e0 ((rs.up px).wipe vs), Nat.le_refl _⟩
    · exact ro_up (fun u f1 => by rw [upd_ne (ne_of_none f1 hD)]; exact f1) e0 (rm1.ob a m e)
    · rcases List.mem_cons.mp m with z | z
      · subst z; exact ⟨rm1.tracked hD, [], upd_same⟩
      · rw [upd_ne fun q => dx (by rw [← q]; exact z)]
        exact rm1.nx a z
  · rintro i m H' ⟨him, h', acc, inv, w2⟩
    cases m with
    | zero => exact w2.elim
    | succ m =>
      unfold lcO at w2
      split at w2
      · rename_i o e1
        split at w2
        · rename_i xs e2
          obtain ⟨vs', pr, sq⟩ := itemsO_ok inv.rm e1 e2
          split at w2
          · rename_i e3
            refine .inl ⟨jo_stop sq (by rw [← pairs_len pr]; exact List.getElem?_eq_none_iff.mp e3), ?_⟩
            obtain ⟨va, a1, a2⟩ := inv.at_
            have eF : Fz Γ (undo H' D) h' = Fz (Γ.more D) H' h' := fz_undo
            have hpx : PX Γ H1 h1 (undo H' D) h' := ⟨by show Sub _ (Fz Γ (undo H' D) h'); rw [eF]; exact inv.ex, fun a m => by rw [undo_ne fun q => dx (by rw [← q]; exact m)]; exact inv.kx a m⟩
            have r := w2 va (undo H' D) D (px.trans hpx) (by rw [eF]; exact a2) ⟨fun a m e => ?_, Γ.st hpx rm1.g, fun a m => ?_, tabs_but inv.rm.tb fun b o e n => by rw [undo_ne fun z => by rw [z, a1] at e; cases e; exact n (.inl rfl)]; exact e⟩ (if_pos rfl)
            · rw [upd_undo a1] at r
              exact r
            · have z := inv.rm.ob a m e
              have ne : a ≠ D := fun q => by
                have n := (inv.rm.nx D List.mem_cons_self).1
                rw [← q, e] at n; cases n
              exact ro_up (fun u f1 => by rw [undo_ne ne]; exact f1) (by rw [eF]; exact fun _ _ q => q) z
            · rw [undo_ne fun q => dx (by rw [← q]; exact m)]
              exact inv.rm.nx a (List.mem_cons_of_mem _ m)
          · rename_i x e3
            obtain ⟨v, e4, rv⟩ := pairs_get pr e3
            have fin : ∀ (h3 : MH) (H3 : Hp), PX (Γ.more D) H' h' H3 h3 → RM K (Γ.more D) H3 h3 → LcInv K Γ H1 h1 D (wipeD σd vs) (L2.wipe σ vs) (i + 1) H3 h3 acc := fun h3 H3 p3 rm3 => by
              obtain ⟨va, a1, a2⟩ := inv.at_
              exact ⟨⟨va, by rw [p3.kx D List.mem_cons_self]; exact a1, dps_up p3.ex _ _ a2⟩, fun a o z => p3.ex a o (inv.ex a o z), fun a m => (p3.kx a (List.mem_cons_of_mem _ m)).trans (inv.kx a m), rm3, inv.rs.up p3, Nat.le_succ_of_le inv.len⟩
            split at w2
            · rename_i σ1 e5
              refine .inr ⟨jo_go sq e4, fun H2 => (i + 1) + m ≤ sizeLine ∧ ∃ h' acc, LcInv K Γ H1 h1 D (wipeD σd vs) (L2.wipe σ vs) (i + 1) H2 h' acc ∧ lcO b g tt te (wipeD σd vs) a m (i + 1) acc h' (fun ds h' => ∀ ws H' p, PX Γ H h H' h' → DpAll K (Fz Γ H' h') ws ds → RM K Γ H' h' → H' p = none → Q (.ref p) (upd H' p (.lst ws))), fun H2 q => ⟨m, Nat.lt_succ_self m, q⟩, fun x' H2 y => ?_⟩
              obtain ⟨rfl, rfl⟩ := jo_yld sq e4 y
              refine rawS_ok hns (rvf_rv rv) inv.rs inv.rm e5 fun σr rsr hwp => ⟨by rw [hwp vs hsub, wipe_wipe], Γ.more D, rfl, ?_⟩
              refine lift_mk mt rsr inv.rm w2 fun c h3 k H3 px3 rs3 rb rm3 w3 => ?_
              subst rb
              cases c with
              | false => exact iteF ⟨by omega, h3, acc, fin h3 H3 px3 rm3, w3⟩
              | true =>
                refine iteT ⟨Γ.more D, rfl, ?_⟩
                refine lift_mk me rs3 rm3 w3 fun y h4 yv H4 px4 rs4 ry rm4 w4 => ?_
                split at w4
                · rename_i z h5 e6
                  obtain ⟨p5, rm5, rz⟩ := fz1_ok ry rm4 e6
                  have inv5 := fin h5 H4 ((px3.trans px4).trans p5) rm5
                  obtain ⟨va, a1, a2⟩ := inv5.at_
                  have eF : Fz (Γ.more D) (upd H4 D (.lst (va ++ [yv]))) h5 = Fz (Γ.more D) H4 h5 := fz_upd
                  have hl : acc.length < sizeLine := by
                    have := inv.len
                    omega
                  refine ⟨va, a1, by rw [dps_len a2]; exact hl, by omega, h5, acc ++ [z], ⟨⟨va ++ [yv], upd_same, ?_⟩, ?_, fun a m => ?_, ⟨fun a m e => ?_, trivial, fun a m => ?_, tabs_upd rm5.tb (.inr ⟨_, a1, .inl rfl⟩)⟩, ?_, ?_⟩, w4⟩
                  · rw [eF]; exact dps_app a2 (.cons rz .nil)
                  · rw [eF]; exact inv5.ex
                  · rw [upd_ne fun q => dx (by rw [← q]; exact m)]; exact inv5.kx a m
                  · have z := rm5.ob a m e
                    have ne : a ≠ D := fun q => by
                      have n := (rm5.nx D List.mem_cons_self).1
                      rw [← q, e] at n; cases n
                    exact ro_up (fun u f1 => by rw [upd_ne ne]; exact f1) (by rw [eF]; exact fun _ _ q => q) z
                  · by_cases q : a = D
                    · subst q; exact ⟨(rm5.nx a m).1, _, upd_same⟩
                    · rw [upd_ne q]
                      exact rm5.nx a m
                  · exact RSt.eqF (by rw [eF]; exact fun _ _ z => z) inv5.rs
                  · simp; have := inv.len; omega
                · exact w4.elim
            · exact w2.elim
        · exact w2.elim
      · exact w2.elim
theorem lcO_at {K : PySem.W.Frag} {Γ : GI} {H : Hp} {h : MH} {a : Addr} {b : Bool} {g : Tg} {tt : DTT} {te : DTE} {n : Nat} {σ : DSt} {acc : List PyData} {Q : List PyData → MH → Prop} (rm : RM K Γ H h) (w : lcO b g tt te σ a n 0 acc h Q) : ∃ vs, (b = false ∧ SqL K H a vs) ∨ (b = true ∧ SqT K H a vs) := by
  cases n with
  | zero => exact w.elim
  | succ n =>
    unfold lcO at w
    split at w
    · rename_i o e1
      split at w
      · rename_i xs e2
        obtain ⟨vs, _, sq⟩ := itemsO_ok rm e1 e2
        exact ⟨vs, sq⟩
      · exact w.elim
    · exact w.elim
theorem lcG_ok {K : PySem.W.Frag} {tl : DTE} {g : Tg} {tt : DTT} {te : DTE} {vs : List Nat} (hw : Mono tl) (mt : Mono tt) (me : Mono te) (hix : (g.ix.all (fun i => vs.contains i) && !g.isStar) = true) : ∀ σ H Q, liftF K Γ (fLcG tl g tt te vs) σ H Q →
    tLc (iSq K (liftV K Γ tl)) (rawT K g) (fun σ H Q => ∃ Γ' : GI, Γ'.T = Γ.T ∧ liftB K Γ' tt σ H Q) (fun σ H Q => ∃ Γ' : GI, Γ'.T = Γ.T ∧ liftV K Γ' te σ H Q) vs σ H Q := by
  rintro σ H Q ⟨σd, h, rs, rm, w0⟩
  refine lift_mk hw rs rm w0 fun x h1 v H1 px rs1 rv rm1 w1 => ?_
  unfold lcGK at w1
  split at w1
  · rename_i a
    obtain ⟨b, n, hn, w1⟩ := w1
    have ev : v = .ref a := rv
    subst ev
    obtain ⟨vs', sq⟩ := lcO_at rm1 w1
    have z := fun D (hD : H1 D = none) => lc_own mt me hix rs px rm1 hD hn w1
    refine ⟨a, rfl, ?_⟩
    rcases sq with ⟨rfl, sq⟩ | ⟨rfl, sq⟩
    · exact .inl ⟨vs', sq, z⟩
    · exact .inr ⟨vs', sq, z⟩
  · rename_i ds
    have rv' : Dp K (Fz Γ H1 h1) v (.list ds) := rv
    cases rv' with
    | @lst a vs' _ s1 dd => exact ⟨a, rfl, .inl ⟨vs', sqL_up fz_sub s1, fun D hD => lc_data mt me hix rs px rm1 (gives_list s1 dd) hD w1.1 w1.2⟩⟩
  · rename_i ds
    have rv' : Dp K (Fz Γ H1 h1) v (.tuple ds) := rv
    cases rv' with
    | @tup a vs' _ s1 dd => exact ⟨a, rfl, .inr ⟨vs', sqT_up fz_sub s1, fun D hD => lc_data mt me hix rs px rm1 (gives_tup s1 dd) hD w1.1 w1.2⟩⟩
  · exact w1.elim
section
variable {X : Cx} {e : Expr} {te : DTE} {tg iter : Expr} {pos : Pos}
theorem df_lcG {elt iter : Expr} {ifs : List Expr} {scope : Scope} {own : List (Str × Nat)} {tl : DTE} {g : Tg} {tt : DTT} {te : DTE} (hc : X.calm = true) (hN : X.N.Nodup) (hi : DE X Γ iter tl) (ok : BlkOk X.N X.env.scope scope own)
    (hg : ∀ (s : Shared) (H : Hp) (C : Addr) (cl : List (Str × Addr)) (fp : List Addr), DG (X.blk s H scope (compEnvC scope cl C X.env) fp) tg g) (hix : (g.ix.all (fun i => (own.map (·.2)).contains i) && !g.isStar) = true)
    (ht : ∀ (Γ' : GI), Γ'.T = Γ.T → ∀ (s : Shared) (H : Hp) (C : Addr) (cl : List (Str × Addr)) (fp : List Addr), DTs (X.blk s H scope (compEnvC scope cl C X.env) fp) Γ' ifs tt)
    (he : ∀ (Γ' : GI), Γ'.T = Γ.T → ∀ (s : Shared) (H : Hp) (C : Addr) (cl : List (Str × Addr)) (fp : List Addr), DE (X.blk s H scope (compEnvC scope cl C X.env) fp) Γ' elt te) (hs : ∀ x, foldedSetIterable iter X.env x = pure x := by intro _; rfl) :
    DF X Γ (.ListComp elt [⟨tg, iter, ifs, 0⟩] scope pos) (fLcG tl g tt te (own.map (·.2))) := by
  have mt : Mono tt := (ht Γ rfl ({} : Shared) (fun _ => none) 0 [] []).mono
  have me : Mono te := (he Γ rfl ({} : Shared) (fun _ => none) 0 [] []).mono
  refine ⟨fun σ h Q Q' k w => hi.mono _ _ _ _ (fun x h1 w1 => lcGK_mono mt me k w1) w, ?_⟩
  exact pe_imp (pe_lc (pos := pos) (wi := iSq X.K (liftV X.K Γ tl)) (g := rawT X.K g) hc hN (pi_sq hi.pe) ok (fun s H C cl fp => (hg s H C cl fp).pg)
    (fun s H C cl fp => ⟨fun pins s' σ H' Q I ⟨Γ', e, q⟩ => (ht Γ' e s H C cl fp).pts.run pins s' σ H' Q I q⟩) (fun s H C cl fp => ⟨fun pins s' σ H' Q I ⟨Γ', e, q⟩ => (he Γ' e s H C cl fp).pe.run pins s' σ H' Q I q⟩) hs) (lcG_ok hi.mono mt me hix)
theorem ds_lcG_ {i : Nat} {y : Str} {py : Pos} {elt iter : Expr} {ifs : List Expr} {scope : Scope} {own : List (Str × Nat)} {spos : Pos} {tl : DTE} {g : Tg} {tt : DTT} {te td : DTE} (md : Mono td) (up : ∀ σ H Q, liftV X.K Γ td σ H Q → liftF X.K Γ (fLcG tl g tt te (own.map (·.2))) σ H Q) (hc : X.calm = true) (hN : X.N.Nodup) (hi : DE X Γ iter tl) (ok : BlkOk X.N X.env.scope scope own)
    (hg : ∀ (s : Shared) (H : Hp) (C : Addr) (cl : List (Str × Addr)) (fp : List Addr), DG (X.blk s H scope (compEnvC scope cl C X.env) fp) tg g) (hix : (g.ix.all (fun i => (own.map (·.2)).contains i) && !g.isStar) = true)
    (ht : ∀ (Γ' : GI), Γ'.T = Γ.T → ∀ (s : Shared) (H : Hp) (C : Addr) (cl : List (Str × Addr)) (fp : List Addr), DTs (X.blk s H scope (compEnvC scope cl C X.env) fp) Γ' ifs tt)
    (he : ∀ (Γ' : GI), Γ'.T = Γ.T → ∀ (s : Shared) (H : Hp) (C : Addr) (cl : List (Str × Addr)) (fp : List Addr), DE (X.blk s H scope (compEnvC scope cl C X.env) fp) Γ' elt te)
    (hy : X.N[i]? = some y) (hyl : X.env.scope.names.lookup y = some .local) (hsw : swapsWith (.ListComp elt [⟨tg, iter, ifs, 0⟩] scope pos) (some (.Name y py)) spos.line X.env = pure true) (hs : ∀ x, foldedSetIterable iter X.env x = pure x) :
    DS X Γ (.Assign [.Name y py] (.ListComp elt [⟨tg, iter, ifs, 0⟩] scope pos) spos) (dAsg td (.nm i)) := by
  have mt : Mono tt := (ht Γ rfl ({} : Shared) (fun _ => none) 0 [] []).mono
  have me : Mono te := (he Γ rfl ({} : Shared) (fun _ => none) 0 [] []).mono
  refine ⟨mono_asg md, ps_imp (ps_setLc (wi := iSq X.K (liftV X.K Γ tl)) (g := rawT X.K g) (tt := fun σ H Q => ∃ Γ' : GI, Γ'.T = Γ.T ∧ liftB X.K Γ' tt σ H Q) (te := fun σ H Q => ∃ Γ' : GI, Γ'.T = Γ.T ∧ liftV X.K Γ' te σ H Q) hc hN hy hyl hsw (pi_sq hi.pe) ok (fun s H C cl fp => (hg s H C cl fp).pg)
    (fun s H C cl fp => ⟨fun pins s' σ H' Q I ⟨Γ', e, q⟩ => (ht Γ' e s H C cl fp).pts.run pins s' σ H' Q I q⟩) (fun s H C cl fp => ⟨fun pins s' σ H' Q I ⟨Γ', e, q⟩ => (he Γ' e s H C cl fp).pe.run pins s' σ H' Q I q⟩) hs) fun D σ H q => ?_⟩
  exact lcG_ok hi.mono mt me hix _ _ _ (up _ _ _ (asg_lift (g := .nm i) md D σ H q))
theorem ds_lcG (i : Nat) {y : Str} {py : Pos} {elt iter : Expr} {ifs : List Expr} {scope : Scope} {own : List (Str × Nat)} {spos : Pos} {tl : DTE} {g : Tg} {tt : DTT} {te : DTE} (hc : X.calm = true) (hN : X.N.Nodup) (hi : DE X Γ iter tl) (ok : BlkOk X.N X.env.scope scope own)
    (hg : ∀ (s : Shared) (H : Hp) (C : Addr) (cl : List (Str × Addr)) (fp : List Addr), DG (X.blk s H scope (compEnvC scope cl C X.env) fp) tg g) (hix : (g.ix.all (fun i => (own.map (·.2)).contains i) && !g.isStar) = true)
    (ht : ∀ (Γ' : GI), Γ'.T = Γ.T → ∀ (s : Shared) (H : Hp) (C : Addr) (cl : List (Str × Addr)) (fp : List Addr), DTs (X.blk s H scope (compEnvC scope cl C X.env) fp) Γ' ifs tt)
    (he : ∀ (Γ' : GI), Γ'.T = Γ.T → ∀ (s : Shared) (H : Hp) (C : Addr) (cl : List (Str × Addr)) (fp : List Addr), DE (X.blk s H scope (compEnvC scope cl C X.env) fp) Γ' elt te)
    (hy : X.N[i]? = some y := by rfl) (hyl : X.env.scope.names.lookup y = some .local := by rfl) (hsw : swapsWith (.ListComp elt [⟨tg, iter, ifs, 0⟩] scope pos) (some (.Name y py)) spos.line X.env = pure true := by rfl) (hs : ∀ x, foldedSetIterable iter X.env x = pure x := by intro _; rfl) :
    DS X Γ (.Assign [.Name y py] (.ListComp elt [⟨tg, iter, ifs, 0⟩] scope pos) spos) (dAsg (dL (fLcG tl g tt te (own.map (·.2)))) (.nm i)) := by
  have m := (df_lcG (pos := pos) hc hN hi ok hg hix ht he hs).mono
  exact ds_lcG_ (mono_L m) (liftL_dL m) hc hN hi ok hg hix ht he hy hyl hsw hs
theorem ds_lcGO (i : Nat) {y : Str} {py : Pos} {elt iter : Expr} {ifs : List Expr} {scope : Scope} {own : List (Str × Nat)} {spos : Pos} {tl : DTE} {g : Tg} {tt : DTT} {te : DTE} (hc : X.calm = true) (hN : X.N.Nodup) (hi : DE X Γ iter tl) (ok : BlkOk X.N X.env.scope scope own)
    (hg : ∀ (s : Shared) (H : Hp) (C : Addr) (cl : List (Str × Addr)) (fp : List Addr), DG (X.blk s H scope (compEnvC scope cl C X.env) fp) tg g) (hix : (g.ix.all (fun i => (own.map (·.2)).contains i) && !g.isStar) = true)
    (ht : ∀ (Γ' : GI), Γ'.T = Γ.T → ∀ (s : Shared) (H : Hp) (C : Addr) (cl : List (Str × Addr)) (fp : List Addr), DTs (X.blk s H scope (compEnvC scope cl C X.env) fp) Γ' ifs tt)
    (he : ∀ (Γ' : GI), Γ'.T = Γ.T → ∀ (s : Shared) (H : Hp) (C : Addr) (cl : List (Str × Addr)) (fp : List Addr), DE (X.blk s H scope (compEnvC scope cl C X.env) fp) Γ' elt te)
    (hy : X.N[i]? = some y := by rfl) (hyl : X.env.scope.names.lookup y = some .local := by rfl) (hsw : swapsWith (.ListComp elt [⟨tg, iter, ifs, 0⟩] scope pos) (some (.Name y py)) spos.line X.env = pure true := by rfl) (hs : ∀ x, foldedSetIterable iter X.env x = pure x := by intro _; rfl) :
    DS X Γ (.Assign [.Name y py] (.ListComp elt [⟨tg, iter, ifs, 0⟩] scope pos) spos) (dAsg (dOwn (fLcG tl g tt te (own.map (·.2)))) (.nm i)) := by
  have m := (df_lcG (pos := pos) hc hN hi ok hg hix ht he hs).mono
  exact ds_lcG_ (mono_own m) (liftL_own m) hc hN hi ok hg hix ht he hy hyl hsw hs
end
/-! steps -/
section
variable {σ : DSt} {h : MH} {D : DEnds} {a : Addr} {g : Tg} {tb : DTS} {tl te : DTE} {tt : DTT} {vs : List Nat} {QL : List PyData → MH → Prop} {xs ds : List PyData}
theorem e_forG (k : tl σ h (forGK g tb D σ)) : dForG tl g tb D σ h := k
theorem k_forGT (k : forL g tb D ds σ h) : forGK g tb D σ (.d (.tuple ds)) h := k
theorem k_forGL (k : forL g tb D ds σ h) : forGK g tb D σ (.d (.list ds)) h := k
theorem e_fLcG (k : tl σ h (lcGK g tt te (wipeD σ vs) QL)) : fLcG tl g tt te vs σ h QL := k
theorem k_lcGT (k : ds.length ≤ sizeLine ∧ lcL g tt te σ ds [] h QL) : lcGK g tt te σ QL (.d (.tuple ds)) h := k
theorem k_lcGL (k : ds.length ≤ sizeLine ∧ lcL g tt te σ ds [] h QL) : lcGK g tt te σ QL (.d (.list ds)) h := k
theorem drop_at {α : Type} {xs r : List α} {d : α} {i : Nat} (e : d :: r = xs.drop i) : xs[i]? = some d ∧ r = xs.drop (i + 1) := by
  have hl : i < xs.length := by
    rcases Nat.lt_or_ge i xs.length with q | q
    · exact q
    · rw [List.drop_eq_nil_of_le q] at e; cases e
  rw [List.drop_eq_getElem_cons hl] at e
  injection e with e1 e2
  exact ⟨by rw [List.getElem?_eq_getElem hl, e1], e2⟩
theorem itemsO_lst {i : Nat} : itemsO false (.lst xs) = some (xs.map SV.d) := rfl
/-- over one's own list that stays -/
theorem forO_inv (xs : List PyData) (I : List PyData → DSt → MH → Prop) (keep : ∀ r σ h, I r σ h → h a = some (.lst xs))
    (step : ∀ d r σ h (K : DSt → MH → Prop), I (d :: r) σ h → (∀ σ' h', I r σ' h' → K σ' h') → ∃ σ1, bindT g (.d d) σ = some σ1 ∧ tb { nx := K, ct := K, bk := D.nx, rt := D.rt } σ1 h)
    (fin : ∀ σ h, I [] σ h → D.nx σ h) : ∀ r i σ h, r = xs.drop i → I r σ h → forO false g tb D a (r.length + 1) i σ h
  | [], i, σ, h, e, hi => by
    have hl : xs.length ≤ i := List.drop_eq_nil_iff.mp e.symm
    unfold forO
    simp only [keep _ _ _ hi, itemsO_lst (i := i)]
    rw [List.getElem?_map, List.getElem?_eq_none hl]
    exact fin σ h hi
  | d :: r, i, σ, h, e, hi => by
    obtain ⟨e1, e2⟩ := drop_at e
    obtain ⟨σ1, b1, w⟩ := step d r σ h (fun σ' h' => forO false g tb D a (r.length + 1) (i + 1) σ' h') hi fun σ' h' hi' => forO_inv xs I keep step fin r (i + 1) σ' h' e2 hi'
    show forO false g tb D a (r.length + 1 + 1) i σ h
    unfold forO
    simp only [keep _ _ _ hi, itemsO_lst (i := i)]
    rw [List.getElem?_map, e1]
    have b2 : bindS g (.d d) h σ = some σ1 := b1
    simp only [Option.map_some, b2]
    exact w
theorem k_forGO (xs : List PyData) (I : List PyData → DSt → MH → Prop) (keep : ∀ r σ h, I r σ h → h a = some (.lst xs))
    (step : ∀ d r σ h (K : DSt → MH → Prop), I (d :: r) σ h → (∀ σ' h', I r σ' h' → K σ' h') → ∃ σ1, bindT g (.d d) σ = some σ1 ∧ tb { nx := K, ct := K, bk := D.nx, rt := D.rt } σ1 h)
    (fin : ∀ σ h, I [] σ h → D.nx σ h) (h0 : I xs σ h) : forGK g tb D σ (.own a) h := ⟨false, _, forO_inv xs I keep step fin xs 0 σ h (by simp) h0⟩
theorem lcO_inv (xs : List PyData) (I : List PyData → List PyData → MH → Prop) (keep : ∀ r acc h, I r acc h → h a = some (.lst xs))
    (step : ∀ d r acc h (K : List PyData → MH → Prop), I (d :: r) acc h → (∀ acc' h', I r acc' h' → K acc' h') → ∃ σ1, bindT g (.d d) σ = some σ1 ∧ tt σ1 h fun c h1 => if c = true then te σ1 h1 fun y h2 => match fz1 y h2 with
        | some (z, h3) => K (acc ++ [z]) h3
        | none => False
      else K acc h1)
    (fin : ∀ acc h, I [] acc h → QL acc h) : ∀ r i acc h, r = xs.drop i → I r acc h → lcO false g tt te σ a (r.length + 1) i acc h QL
  | [], i, acc, h, e, hi => by
    have hl : xs.length ≤ i := List.drop_eq_nil_iff.mp e.symm
    unfold lcO
    simp only [keep _ _ _ hi, itemsO_lst (i := i)]
    rw [List.getElem?_map, List.getElem?_eq_none hl]
    exact fin acc h hi
  | d :: r, i, acc, h, e, hi => by
    obtain ⟨e1, e2⟩ := drop_at e
    obtain ⟨σ1, b1, w⟩ := step d r acc h (fun acc' h' => lcO false g tt te σ a (r.length + 1) (i + 1) acc' h' QL) hi fun acc' h' hi' => lcO_inv xs I keep step fin r (i + 1) acc' h' e2 hi'
    show lcO false g tt te σ a (r.length + 1 + 1) i acc h QL
    unfold lcO
    simp only [keep _ _ _ hi, itemsO_lst (i := i)]
    rw [List.getElem?_map, e1]
    have b2 : bindS g (.d d) h σ = some σ1 := b1
    simp only [Option.map_some, b2]
    exact w
/-- a comprehension over one's own list that changes nothing -/
theorem k_lcGO {α : Type} {enc out : α → PyData} (p : α → Bool) {l : List α} (e : h a = some (.lst (l.map enc))) (hl : l.length < 16777216)
    (step : ∀ v ∈ l, ∃ σ1, bindT g (.d (enc v)) σ = some σ1 ∧ (∀ K : Bool → MH → Prop, K (p v) h → tt σ1 h K) ∧ (p v = true → ∀ K : DK, K (.d (out v)) h → te σ1 h K)) (fin : QL ((l.filter p).map out) h) : lcGK g tt te σ QL (.own a) h := by
  refine ⟨false, (l.map enc).length + 1, by rw [sizeLine_eq, List.length_map]; omega, ?_⟩
  refine lcO_inv (l.map enc) (fun r acc h' => ∃ l1 l2 : List α, l = l1 ++ l2 ∧ r = l2.map enc ∧ acc = (l1.filter p).map out ∧ h' = h) ?_ ?_ ?_ _ 0 _ _ (by simp) ⟨[], l, rfl, rfl, rfl, rfl⟩
  · rintro r acc h' ⟨_, _, _, _, _, rfl⟩
    exact e
  · rintro d r acc h' K ⟨l1, l2, e1, er, rfl, rfl⟩ hK
    cases l2 with
    | nil => cases er
    | cons v l2' =>
      rw [List.map_cons] at er
      injection er with er1 er2
      subst er1 er2
      obtain ⟨σ1, b1, t1, t2⟩ := step v (by rw [e1]; simp)
      refine ⟨σ1, b1, t1 _ ?_⟩
      cases q : p v with
      | true =>
        rw [if_pos rfl]
        refine t2 q _ ?_
        exact hK _ _ ⟨l1 ++ [v], l2', by rw [e1]; simp, rfl, by rw [List.filter_append, List.map_append]; simp [q], rfl⟩
      | false =>
        rw [if_neg (by decide)]
        exact hK _ _ ⟨l1 ++ [v], l2', by rw [e1]; simp, rfl, by rw [List.filter_append, List.map_append]; simp [q], rfl⟩
  · rintro acc h' ⟨l1, l2, e1, er, rfl, rfl⟩
    have e0 : l2 = [] := by
      cases l2 with
      | nil => rfl
      | cons _ _ => cases er
    subst e0
    rw [List.append_nil] at e1
    subst e1
    exact fin
end
end DL

namespace DL
open PySem PySem.Spec PyProof.Rows L2
set_option autoImplicit true

/-! ## a def that calls itself: no deeper -/
theorem fnc_false {P : Program} {w : World} {K : PySem.W.Frag} {mg : Str → Option Value} {base : Heap} {T : List (Addr × Str)} {k : Nat} {x : Str} {ps : List Str} {st : Stmt} {f : Addr} {fd : FuncData} (F : Fun K x x st f fd) (hm : mg x = some (.ref f))
    (hb : ∀ (kV doc pm : Value) (an : Option Addr) (cdv ct : Value) (us : List Value), us.length = ps.length → bindArgs (PySem.W.fnOf x x (defArgs st) (defBody st) (defScope st) .none kV doc pm an cdv ct) ⟨us, []⟩ = pure (ps.zip us)) :
    FnC P w K mg base T k x ps (fun _ _ _ _ => False) :=
  fn_c F ⟨fun _ _ _ _ w => w.elim, fun _ _ _ _ _ _ _ _ w => w, fun A outer s H args us vs Q E _ _ _ _ _ w => by
    obtain ⟨xs, ds, h, rv, rm, w⟩ := w
    exact w.elim⟩ hm hb
end DL

namespace DL
open PySem PySem.Spec PyProof.Rows L2
set_option autoImplicit true

/-! ## sorted(set(a list of tuples of ints)) -/
theorem perm_pull {α β : Type} (f : α → β) {l m : List β} (h : l.Perm m) : ∀ L : List α, m = L.map f → ∃ L' : List α, L'.Perm L ∧ l = L'.map f := by
  induction h with
  | nil =>
    intro L e
    cases L with
    | nil => exact ⟨[], .nil, rfl⟩
    | cons _ _ => cases e
  | cons x _ ih =>
    intro L e
    cases L with
    | nil => cases e
    | cons a L =>
      injection e with e1 e2
      obtain ⟨L', p, e3⟩ := ih L e2
      exact ⟨a :: L', p.cons a, by rw [e3, e1]; rfl⟩
  | swap x y l =>
    intro L e
    cases L with
    | nil => cases e
    | cons a L =>
      injection e with e1 e2
      cases L with
      | nil => cases e2
      | cons b L =>
        injection e2 with e2 e3
        exact ⟨b :: a :: L, .swap a b L, by rw [e1, e2, e3]; rfl⟩
  | trans _ _ ih1 ih2 =>
    intro L e
    obtain ⟨L1, p1, e1⟩ := ih2 L e
    obtain ⟨L2, p2, e2⟩ := ih1 L1 e1
    exact ⟨L2, p2.trans p1, e2⟩
section
variable {P : Program} {w : World} {A : Around} {E : Value → Shared → Prop} {s : Shared}
theorem hdAt_tup {h : Heap} {k : List Int} {b : Addr} (x : IsT P w h k b) : HdAt h (.ref b) k [] := by
  obtain ⟨o, items, n, ho, hc, hd, hi⟩ := x
  exact ⟨b, o, n, items.toList, rfl, ho, hc, by rw [hd]; simp, ints_of_items hi⟩
abbrev refs (L : List (Addr × List Int)) : List Value := L.map fun q => Value.ref q.1
theorem sorted_setO {a : Addr} {L : List (Addr × List Int)} {es : Array (Int × Value)} {ep : Nat} {t : SetTable} {Q : Value → Shared → Prop} (R : SetTR P w s.heap a L es ep t) (hh : A.handled = none) {m : Nat} (hm : 1 ≤ m) (hl : ∀ p ∈ L, p.2.length = m)
    (hQ : ∀ s' p (out : Array Value) (c : Nat) (L' : List (Addr × List Int)), (∀ b o, s.heap.get? b = some o → s'.heap.get? b = some o) → s'.gens = s.gens → s'.os = s.os → s.heap.objs.size ≤ p → s'.heap.get? p = some (seqObj "list" out c) →
      out.toList = refs L' → L'.Perm L → L'.Pairwise (fun q r => leL q.2 r.2 = true) → Q (.ref p) s') :
    wpAny (model P w) A (call (.builtin "sorted") [.ref a]) Q E s := by
  obtain ⟨o, ho, hex, hd⟩ := R.ob
  have few := R.few
  have sz := R.size
  refine Calls.call_function_entry kind_sorted plain_sorted entry_sorted (args_sorted1 _) (show wpAny _ _ (Builtin.«sorted» _) _ _ _ from ?_)
  unfold Builtin.«sorted»
  refine wpAny_bind (m := checkCount "sorted" 1 1 _) (wpAny_pure (wpAny_bind ?_))
  refine collect_set (A := A.in1) hh ⟨o, ho, hex.1, hd⟩ R.fits (by unfold scanBound; omega) R.tab.ris R.led fun s1 vs k1 hz g1 o1 pm => ?_
  have pm2 : vs.Perm (refs L) := by
    have e : es.toList.map (·.2) = refs L := by rw [R.rows]; unfold rowsOf refs; rw [List.map_map]; rfl
    exact e ▸ pm
  obtain ⟨L0, p0, e0⟩ := perm_pull (fun q : Addr × List Int => Value.ref q.1) pm2 L rfl
  have h64 : vs.length < 64 := by rw [pm2.length_eq]; unfold refs; rw [List.length_map]; exact few
  refine wpAny_bind (wpAny_newList ?_ (by rw [sizeLine_eq]; omega))
  obtain ⟨h1, eh⟩ : ∃ h1, h1 = s1.heap.push (seqObj "list" vs.toArray 0) := ⟨_, rfl⟩
  have hoL : h1.get? s1.heap.objs.size = some (seqObj "list" vs.toArray 0) := by rw [eh]; exact Heap.get?_push_size _ rfl
  have at0 : ∀ q ∈ L0, HdAt h1 (.ref q.1) q.2 [] := fun q hq => hdAt_tup (P := P) (w := w) (isT_keep (R.tup q (p0.mem_iff.mp hq)) fun b u e => by rw [eh]; exact Heap.get?_push_of_some _ (k1 b u e))
  have hl0 : ∀ q ∈ L0, q.2.length = m := fun q hq => hl q (p0.mem_iff.mp hq)
  have ok : HdsOk h1 m vs := by
    rw [e0]
    refine ⟨fun v hv => ?_, fun v hv u hu ns r r' ln a1 a2 => ?_⟩
    · obtain ⟨q, hq, rfl⟩ := List.mem_map.mp hv
      exact ⟨q.2, [], hl0 q hq, at0 q hq⟩
    · obtain ⟨q, hq, rfl⟩ := List.mem_map.mp hv
      obtain ⟨q', hq', rfl⟩ := List.mem_map.mp hu
      exact (a1.uniq (at0 q hq) (ln.trans (hl0 q hq).symm)).2.trans (a2.uniq (at0 q' hq') (ln.trans (hl0 q' hq').symm)).2.symm
  have hns : (s1.heap.push (seqObj "list" vs.toArray 0)) = h1 := eh.symm
  show wpAny _ _ _ _ _ { s1 with heap := s1.heap.push (seqObj "list" vs.toArray 0) }
  rw [hns]
  refine wpAny_bind (wpAny_holding (wpAny_call_entry slot_list_sort ⟨_, hoL, rfl⟩ entry_list_sort ?_ (args_list_sort _)))
  refine SrtO.list_sort_ord (s := { s1 with heap := h1 }) (ltV_swo h1 m) hoL (by rw [sizeLine_eq]; omega) (fun h2 => hds_sortable (s := { s1 with heap := h1 }) hm (by omega) ok fun b o e c => ⟨fun z => ?_, e⟩) fun out a1 a2 => ⟨_, rfl, ?_⟩
  · rw [z, hoL] at e
    cases e
    exact absurd (Value.type.inj (show Value.type "list" = Value.type "tuple" from c)) (by decide)
  · obtain ⟨c, hc⟩ := sortedHeap_at (vs := vs) (out := out.toArray) hoL
    have pO : out.Perm vs := by rw [stb_sort a1 a2]; exact List.mergeSort_perm _ _
    obtain ⟨L', p', e'⟩ := perm_pull (fun q : Addr × List Int => Value.ref q.1) pO L0 e0
    have pw : L'.Pairwise (fun q r => leL q.2 r.2 = true) := by
      have a3 : out.Pairwise (fun x y => leL (hdKey h1 m x) (hdKey h1 m y) = true) := a1.imp fun {x y} z => by
        have z' : lexL (hdKey h1 m y) (hdKey h1 m x) = false := z
        unfold leL
        rw [z']
        rfl
      rw [e'] at a3
      refine (List.pairwise_map.mp a3).imp_of_mem fun {q r} hq hr z => ?_
      have iq := p'.mem_iff.mp hq
      have ir := p'.mem_iff.mp hr
      rw [hdKey_eq (hl0 q iq) (at0 q iq), hdKey_eq (hl0 r ir) (at0 r ir)] at z
      exact z
    refine wpAny_pure ⟨_, rfl, hQ _ s1.heap.objs.size out.toArray c L' (fun b u e => ?_) g1 o1 hz hc (by simpa using e') (p'.trans p0) pw⟩
    have q := k1 b u e
    have lt := Heap.lt_size q
    show (sortedHeap h1 s1.heap.objs.size vs out.toArray).get? b = some u
    rw [sortedHeap_old (Nat.ne_of_lt lt) (by rw [eh, size_push']; exact Nat.lt_succ_of_lt lt), eh]
    exact Heap.get?_push_of_some _ q
end
def tSortSetT (K : PySem.W.Frag) (ta : TE) : TE := fun σ H Q => ta σ H fun x H1 => ∃ (l : Addr) (ks : List (Addr × List Int)) (m : Nat), x = V.ref l ∧ SqL K H1 l (ks.map fun p => V.ref p.1) ∧ (∀ p ∈ ks, SqT K H1 p.1 (p.2.map V.int)) ∧ ks.length < 64 ∧ 1 ≤ m ∧ (∀ p ∈ ks, p.2.length = m) ∧
  ∀ (L : List (Addr × List Int)) (p : Addr), (∀ q ∈ L, q ∈ ks) → (∀ q ∈ ks, q.2 ∈ L.map (·.2)) → L.Pairwise (fun q r => lexL q.2 r.2 = true) → H1 p = none → Q (.ref p) (upd H1 p (.lst (L.map fun q => V.ref q.1)))
section
variable {X : Cx} {a b c : Expr} {ta : TE}
theorem pe_sortSetT {p p2 q pos : Pos} (hc : X.calm = true) (hu : X.A.units + 64 < cLine) (hg : Gl X "sorted") (hm : X.mg "sorted" = none) (hg2 : Gl X "set") (hm2 : X.mg "set" = none) (ha : PE X a ta)
    (na : starEach [a] X.env = (false, eval a X.env) :: starEach [] X.env := by rfl) : PE X (.Call (.Name "sorted" p) [.Call (.Name "set" p2) [a] [] q] [] pos) (tSortSetT X.K ta) := by
  refine ⟨fun pins s σ H Q I h => ?_⟩
  refine Call_ (ld_blt I hg hm (by rfl) (PyProof.Rows.callWith_builtin1 (PyProof.Rows.args_cons ?_ rfl) rfl rfl))
  refine Call_ (ld_blt I hg2 hm2 PyProof.Rows.boot_set (PyProof.Rows.callWith_type1 (PyProof.Rows.args_cons (thn (ha.run pins s σ H _ I h) fun v s1 ⟨x, H1, I1, r1, q1⟩ => PyProof.Rows.args_nil ?_) na) na rfl))
  obtain ⟨l, ks, m, rfl, hq, hk, hf, hm1, hlen, q1⟩ := q1
  cases r1
  obtain ⟨its, r, pl, hz⟩ := I1.list hq
  refine call_set_tups (P := X.prog) (w := X.w) ks (I1.ok.hd hc) pl.isList (by simpa using refs_of_vals r) (fun p hp => I1.isT (hk p hp)) hf (by omega) fun h' tk L es ep t R g k => PyProof.Rows.args_nil ?_
  have I2 : Inv X pins σ H1 { s1 with heap := h', toks := tk } := I1.kept fun b o e => k b o e
  have R : SetTR X.prog X.w ({ s1 with heap := h', toks := tk } : Shared).heap s1.heap.objs.size L es ep t := R
  generalize ({ s1 with heap := h', toks := tk } : Shared) = s2 at *
  have sub : ∀ p ∈ L, p ∈ ks := fun p hp => List.mem_of_mem_take (g.sub p hp)
  refine sorted_setO R (I2.ok.hd hc) hm1 (fun p hp => hlen p (sub p hp)) fun s' p out c L' k g2 o hp hg hout pm pw => ?_
  have hn : H1 p = none := I2.hok.fresh hp
  have few := R.few
  have hl2 : (L'.map fun q => V.ref q.1).length ≤ sizeLine := by rw [List.length_map, pm.length_eq, sizeLine_eq]; omega
  have hv : Vals (L'.map fun q => V.ref q.1) out.toList := by rw [hout]; exact vals_of_refs L'
  have J : Inv X pins σ (upd H1 p (.lst (L'.map fun q => V.ref q.1))) { s2 with heap := s'.heap, gens := s'.gens, drawn := s'.drawn, toks := s'.toks } :=
    I2.call (ch := []) (Un.laid k hp hn) (I2.hok.laid k hp ⟨hl2, out.toList, c, hv, hg⟩) (by rw [g2]; exact I2.bare) (fun _ z => nomatch z)
  have e : s' = { s2 with heap := s'.heap, gens := s'.gens, drawn := s'.drawn, toks := s'.toks } := by
    cases s'; cases s2; cases o; rfl
  rw [e]
  have nd : (L'.map (·.2)).Nodup := (pm.map (·.2)).nodup_iff.mpr R.nd
  have pw2 : L'.Pairwise (fun q r => lexL q.2 r.2 = true) := by
    refine (pw.and (List.pairwise_map.mp nd)).imp fun {q r} ⟨z1, z2⟩ => ?_
    cases y : lexL q.2 r.2 with
    | true => rfl
    | false =>
      have z3 : lexL r.2 q.2 = false := by unfold leL at z1; simpa using z1
      exact absurd (lex_total _ _ y z3) z2
  refine ⟨.ref p, _, J, rfl, q1 L' p (fun q hq => sub q (pm.mem_iff.mp hq)) (fun q hq => ?_) pw2 hn⟩
  exact (pm.map (·.2)).mem_iff.mpr (g.all q (by rw [List.take_length]; exact hq))
end
def tupN (k : List Int) : PyData := .tuple (k.map PyData.int)
theorem tups_get {K : PySem.W.Frag} {H : Hp} : ∀ {ks : List (List Int)} {vs : List V}, DpAll K H vs (ks.map tupN) → ∃ ps : List (Addr × List Int), vs = ps.map (fun p => V.ref p.1) ∧ ps.map (·.2) = ks ∧ ∀ p ∈ ps, SqT K H p.1 (p.2.map V.int)
  | [], vs, h => by
    have h' : DpAll K H vs [] := h
    cases h'
    exact ⟨[], rfl, rfl, fun _ z => nomatch z⟩
  | k :: ks, vs, h => by
    have h' : DpAll K H vs (tupN k :: ks.map tupN) := h
    obtain ⟨v, vs2, rfl, a, b⟩ : ∃ v vs2, vs = v :: vs2 ∧ Dp K H v (.tuple (k.map PyData.int)) ∧ DpAll K H vs2 (ks.map tupN) := by
      cases h' with
      | cons a b => exact ⟨_, _, rfl, a, b⟩
    obtain ⟨ps, e1, e2, e3⟩ := tups_get b
    cases a with
    | @tup p us _ hq ha =>
      obtain ⟨ns, e4, e5⟩ := ints_get ha fun d hd => by obtain ⟨i, _, rfl⟩ := List.mem_map.mp hd; exact ⟨i, rfl⟩
      have e6 : k = ns := (List.map_inj_right (fun x y z => by cases z; rfl)).mp e5
      subst e6 e4
      refine ⟨(p, k) :: ps, by rw [e1]; rfl, by rw [← e2]; rfl, fun q hq2 => ?_⟩
      rcases List.mem_cons.mp hq2 with rfl | z
      · exact hq
      · exact e3 q z
theorem dps_tups {K : PySem.W.Frag} {H : Hp} : ∀ (L : List (Addr × List Int)), (∀ q ∈ L, SqT K H q.1 (q.2.map V.int)) → DpAll K H (L.map fun q => V.ref q.1) ((L.map (·.2)).map tupN)
  | [], _ => .nil
  | q :: L, h => .cons (.tup (h q List.mem_cons_self) (dps_ints q.2)) (dps_tups L fun r hr => h r (List.mem_cons_of_mem _ hr))
def fSortSetT (ta : DTE) : DTF := fun σ h Q => ta σ h fun x h1 => match asL h1 x with
  | some ds => ∃ (ks : List (List Int)) (m : Nat), ds = ks.map tupN ∧ ks.length < 64 ∧ 1 ≤ m ∧ (∀ k ∈ ks, k.length = m) ∧ ∀ ms : List (List Int), ms.Pairwise (fun a b => lexL a b = true) → (∀ k, k ∈ ms ↔ k ∈ ks) → Q (ms.map tupN) h1
  | none => False
section
variable {X : Cx} {Γ : GI} {a b c e : Expr} {pos p2 : Pos} {ta tb tc te : DTE} {tg : Expr}
theorem df_sortSetT {t : DTE} {p p2 q pos : Pos} (hc : X.calm = true) (hu : X.A.units + 64 < cLine) (hg : Gl X "sorted") (hm : X.mg "sorted" = none) (hg2 : Gl X "set") (hm2 : X.mg "set" = none) (ha : DE X Γ a t)
    (na : starEach [a] X.env = (false, eval a X.env) :: starEach [] X.env := by rfl) : DF X Γ (.Call (.Name "sorted" p) [.Call (.Name "set" p2) [a] [] q] [] pos) (fSortSetT t) :=
  ⟨fun σ h Q Q' k w => ha.mono _ _ _ _ (fun x h1 w1 => by
    split at w1
    · obtain ⟨ks, m, e, hl, h1, h2, w2⟩ := w1
      exact ⟨ks, m, e, hl, h1, h2, fun ms a b => k _ _ (w2 ms a b)⟩
    · exact w1) w, pe_imp (pe_sortSetT hc hu hg hm hg2 hm2 ha.pe na) fun σ H Q ⟨σd, h, rs, rm, w⟩ => lift_mk ha.mono rs rm w fun x h1 v H1 px rs1 rv rm1 w1 => by
      split at w1
      · rename_i ds e1
        obtain ⟨ks, m, e2, hl, hm1, hlen, w2⟩ := w1
        obtain ⟨b, vs, rfl, s1, d1⟩ := asL_ok rv rm1 e1
        subst e2
        obtain ⟨ps, rfl, rfl, sq⟩ := tups_get d1
        refine ⟨b, ps, m, rfl, s1, fun p hp => sqT_up fz_sub (sq p hp), by simpa using hl, hm1, fun p hp => hlen _ (List.mem_map.mpr ⟨p, hp, rfl⟩), fun L p sub all pw hn => ?_⟩
        refine w2 (L.map (·.2)) (List.pairwise_map.mpr pw) (fun k => ⟨fun hk => ?_, fun hk => ?_⟩) _ _ _ px (dps_tups L fun q hq => sq q (sub q hq)) rm1 hn
        · obtain ⟨q, hq, rfl⟩ := List.mem_map.mp hk
          exact List.mem_map.mpr ⟨q, sub q hq, rfl⟩
        · obtain ⟨q, hq, rfl⟩ := List.mem_map.mp hk
          exact all q hq
      · exact w1.elim⟩

/-! ## len(set(a list of distinct ints)), fewer than 64 -/
def dLenSetI (ta : DTE) : DTE := fun σ h Q => ta σ h fun x h1 => match asL h1 x with
  | some ds => ∃ ns : List Int, ds = ns.map PyData.int ∧ ns.length < 64 ∧ ns.Nodup ∧ Q (.d (.int ns.length)) h1
  | none => False
theorem de_lenSetI {t : DTE} {p p2 q pos : Pos} (hc : X.calm = true) (hg : Gl X "len") (hm : X.mg "len" = none) (hg2 : Gl X "set") (hm2 : X.mg "set" = none) (ha : DE X Γ a t)
    (na : starEach [a] X.env = (false, eval a X.env) :: starEach [] X.env := by rfl) : DE X Γ (.Call (.Name "len" p) [.Call (.Name "set" p2) [a] [] q] [] pos) (dLenSetI t) :=
  ⟨fun σ h Q Q' k w => ha.mono _ _ _ _ (fun x h1 w1 => by
    split at w1
    · obtain ⟨ns, e, hl, hn, w2⟩ := w1
      exact ⟨ns, e, hl, hn, k _ _ w2⟩
    · exact w1) w, pe_imp (pe_lenSetI hc hg hm hg2 hm2 ha.pe na) fun σ H Q ⟨σd, h, rs, rm, w⟩ => lift_mk ha.mono rs rm w fun x h1 v H1 px rs1 rv rm1 w1 => by
      split at w1
      · rename_i ds e1
        obtain ⟨ns, e2, hl, hn, w2⟩ := w1
        obtain ⟨b, vs, rfl, s1, d1⟩ := asL_ok rv rm1 e1
        obtain ⟨ns', rfl, e3⟩ := ints_get d1 (fun d hd => by rw [e2] at hd; obtain ⟨i, _, rfl⟩ := List.mem_map.mp hd; exact ⟨i, rfl⟩)
        have e4 : ns' = ns := (List.map_inj_right (fun x y z => by cases z; rfl)).mp (e3.symm.trans e2)
        subst e4
        exact ⟨b, ns', rfl, s1, hl, hn, w2 _ _ px (rv_int (K := X.K) (Γ := Γ)) rm1⟩
      · exact w1.elim⟩

/-! ## range with a step, of any size -/
theorem turn_rangeL {P : Program} {w : World} {K : PySem.W.Frag} {tg : Expr} (it : Addr) (lo c : Int) (n : Nat) : Turn P w K tg (Itc lo c n) [it] it (fun i h => IsLongIter h it (lo + (i : Nat) * c) ((n : Int) - (i : Nat)) c) where
  mem := List.mem_singleton.mpr rfl
  obj := fun i h st b hb => by
    obtain rfl := List.mem_singleton.mp hb
    exact ⟨_, st, fun v z => nomatch z⟩
  keep := fun i h h' st k => k it (List.mem_singleton.mpr rfl) _ st
  item := by
    intro X hP hw hK hc i pins s σ H E I hf st hg
    subst hP hw hK
    obtain ⟨f0, f1, f2, f3, f4, f5⟩ := hf it (List.mem_singleton.mpr rfl)
    refine (Walks.longrange (prog := X.prog) (w := X.w) (I.ok.hd hc) it lo c n).item i s _ _ hg st fun v h' tk hv st' kk => ?_
    obtain ⟨t, rfl⟩ := hv
    have I1 : Inv X pins σ H { s with heap := h', toks := tk } := I.turned (fun b o hb e => kk b o (by simpa using hb) e) f0 f1 f3 f4 f5
    exact ⟨_, rfl, go_of (s := { s with heap := h', toks := tk }) (n := "longrange_iterator") st' rfl rfl (by decide) ⟨.int (lo + (i : Nat) * c), H, I1, ⟨t, rfl⟩, ⟨rfl, rfl⟩, st', fun b hb => (hf b hb).1⟩⟩
  done := by
    intro X hP hw hK hc i pins s σ H E I hf st hg
    subst hP hw hK
    obtain ⟨f0, f1, f2, f3, f4, f5⟩ := hf it (List.mem_singleton.mpr rfl)
    have hg2 : n ≤ i := hg
    exact wpAny_pyNext_long_end (I.ok.hd hc) st (by omega) fun h' eb => ⟨rfl, I.turned (t' := s.toks) (fun b o hb e => eb b o hb e) f0 f1 f3 f4 f5⟩
  self := fun A i s Q E st h => wpAny_pyIter_longiter st h
def iRng3L (ta : TA) : TI := fun σ H R => ta σ H fun vs H1 => ∃ (i j c : Int) (n : Nat), vs = [.int i, .int j, .int c] ∧ c ≠ 0 ∧ c.natAbs.log2 < 9000 ∧ Builtin.Range.rangeSize i j c = n ∧ R (Itc i c n) H1
theorem pi_range3L {ta : TA} {p pos : Pos} (hg : Gl X "range") (hm : X.mg "range" = none) (ha : PA X [a, b, c] ta)
    (hs : starEach [a, b, c] X.env = (false, eval a X.env) :: starEach [b, c] X.env := by rfl) (hpl : (backTo pos (starEach [b, c] X.env)).any (·.1) = false := by rfl) :
    PI X tg (.Call (.Name "range" p) [a, b, c] [] pos) (iRng3L ta) := by
  refine ⟨fun pins s σ H R I h => Call_ (ld_blt I hg hm boot_range (PyProof.Rows.callWith_type1 (thn (ha.run pos pins s σ H _ I h) fun us s1 ⟨vs, H1, I1, r1, q1⟩ => ?_) hs hpl))⟩
  obtain ⟨i, j, k, n, rfl, c0, c1, c3, q⟩ := q1
  cases r1 with
  | cons r rr => cases rr with
    | cons r' rr => cases rr with
      | cons r'' rr =>
        cases rr
        obtain ⟨t, rfl⟩ := r
        obtain ⟨t', rfl⟩ := r'
        obtain ⟨t'', rfl⟩ := r''
        refine call_range_3 c0 ?_ (.inl (PyProof.noPylong_of_log2 c1))
        have I2 : Inv X pins σ H1 { s1 with heap := s1.heap.push { cls := .type "range", data := .fields #[.int i t, .int j t', .int k t''] } } := I1.kept (t' := s1.toks) fun b o e => Heap.get?_push_of_some _ e
        have e1 : i + ((0 : Nat) : Int) * k = i := by simp
        have e2 : (n : Int) - ((0 : Nat) : Int) = Builtin.Range.rangeSize i j k := by rw [c3]; simp
        cases sm : Builtin.Range.small i j k with
        | true =>
          refine wpAny_pyIter_range (IsRange.new ..) sm (pi_one (tk := s1.toks) I2 _ (turn_rangeC _ i k n) ?_ q)
          show IsRangeIter _ _ (i + ((0 : Nat) : Int) * k) ((n : Int) - ((0 : Nat) : Int)) k
          rw [e1, e2]
          exact Heap.get?_push_size _ rfl
        | false =>
          refine wpAny_pyIter_longrange (IsRange.new ..) sm (pi_one (tk := s1.toks) I2 _ (turn_rangeL _ i k n) ?_ q)
          show IsLongIter _ _ (i + ((0 : Nat) : Int) * k) ((n : Int) - ((0 : Nat) : Int)) k
          rw [e1, e2]
          exact Heap.get?_push_size _ rfl
def rgC (a c : Int) (n : Nat) : List PyData := (List.range n).map fun i => PyData.int (a + (i : Nat) * c)
theorem gives_rangeC {K : PySem.W.Frag} {F : Hp} {a c : Int} {n : Nat} : Gives K F (Itc a c n) (rgC a c n) := by
  have hl : (rgC a c n).length = n := by unfold rgC; rw [List.length_map, List.length_range]
  unfold Gives
  rw [hl]
  refine ⟨fun i H hi _ => hi, fun H _ => Nat.le_refl _, fun i H x H' hi s y => ⟨s, ?_⟩⟩
  obtain ⟨e, e2⟩ := y
  refine ⟨.int (a + (i : Nat) * c), ?_, .inl ⟨e, by rw [e2]; exact .int _⟩⟩
  unfold rgC
  rw [List.getElem?_map, List.getElem?_range hi]
  rfl
def wRg3 (ta tb tc : DTE) : DTI := fun σ h Q => ta σ h fun x h1 => tb σ h1 fun y h2 => tc σ h2 fun z h3 => match asInt x, asInt y, asInt z with
  | some a, some b, some c => c ≠ 0 ∧ c.natAbs.log2 < 9000 ∧ ∃ n : Nat, Builtin.Range.rangeSize a b c = n ∧ Q (rgC a c n) h3
  | _, _, _ => False
theorem rvs3 {K : PySem.W.Frag} {H : Hp} {h : MH} {x y z : SV} {vs : List V} (r : RVs K Γ H h [x, y, z] vs) : ∃ u v w, vs = [u, v, w] ∧ RV K Γ H h x u ∧ RV K Γ H h y v ∧ RV K Γ H h z w := by
  cases r with
  | cons a r => cases r with
    | cons b r => cases r with
      | cons c r => cases r; exact ⟨_, _, _, rfl, a, b, c⟩
theorem dw_rg3 {p : Pos} (hg : Gl X "range") (hm : X.mg "range" = none) (ha : DE X Γ a ta) (hb : DE X Γ b tb) (hc : DE X Γ c tc) (hs : starEach [a, b, c] X.env = (false, eval a X.env) :: starEach [b, c] X.env := by rfl) (hs2 : starEach [b, c] X.env = (false, eval b X.env) :: starEach [c] X.env := by rfl) (hs3 : starEach [c] X.env = [(false, eval c X.env)] := by rfl)
    (hpl : (backTo pos (starEach [b, c] X.env)).any (·.1) = false := by rfl) : DWk X Γ tg (.Call (.Name "range" p) [a, b, c] [] pos) (wRg3 ta tb tc) :=
  ⟨fun σ h Q Q' k w => ha.mono _ _ _ _ (fun x h1 w1 => hb.mono _ _ _ _ (fun y h2 w2 => hc.mono _ _ _ _ (fun z h3 w3 => by
    split at w3
    · obtain ⟨q1, q2, n, q3, q4⟩ := w3
      exact ⟨q1, q2, n, q3, k _ _ q4⟩
    · exact w3) w2) w1) w, pi_imp (pi_range3L hg hm (da_cons ha (da_cons hb (da_cons hc da_nil hs3) hs2) hs).pa hs hpl) fun σ H R ⟨σd, h, rs, rm, w⟩ => lift_mk (mono_cons ha.mono (mono_cons hb.mono (mono_cons hc.mono fun _ _ _ _ k w => k _ _ w))) rs rm (C := fun xs h3 => ∃ x y z, xs = [x, y, z] ∧ match asInt x, asInt y, asInt z with
      | some a, some b, some c => c ≠ 0 ∧ c.natAbs.log2 < 9000 ∧ ∃ n : Nat, Builtin.Range.rangeSize a b c = n ∧ ∀ J H', PX Γ H h H' h3 → RM X.K Γ H' h3 → Gives X.K (Fz Γ H' h3) J (rgC a c n) → R J H'
      | _, _, _ => False) (ha.mono _ _ _ _ (fun x h1 w1 => hb.mono _ _ _ _ (fun y h2 w2 => hc.mono _ _ _ _ (fun z h3 w3 => ⟨x, y, z, rfl, w3⟩) w2) w1) w) fun xs h1 vs H1 px rs1 rvs rm1 w1 => by
      obtain ⟨x, y, z, rfl, w1⟩ := w1
      obtain ⟨u, v, w, rfl, ru, rv, rw⟩ := rvs3 rvs
      split at w1
      · rename_i i j k e1 e2 e3
        obtain ⟨q1, q2, n, q3, q4⟩ := w1
        exact ⟨i, j, k, n, by rw [asInt_ok ru e1, asInt_ok rv e2, asInt_ok rw e3], q1, q2, q3, q4 _ H1 px rm1 gives_rangeC⟩
      · exact w1.elim⟩
end
end DL

namespace DL
open PySem PySem.Spec PyProof.Rows L2
set_option autoImplicit true

/-! ## () * 2 -/
theorem tuple_mul0 (l : Addr) (n : Nat) (dd : Option Addr) (sl : Array (Option Value)) (u : Tok) :
    Meets (Builtin.«tuple.__mul__» ⟨[.ref l, .int 2 u], []⟩) (fun _ R s => s.heap.get? l = some { cls := .type "tuple", dict := dd, data := .seq #[] n, slots := sl } ∧ R (.ok (.ret (Value.ref l))) s) :=
  .of_wp fun prog w A R s h => by
    obtain ⟨hp, g, d, tk, os⟩ := s
    obtain ⟨hl, h⟩ := h
    have f1 := AutoSeq1.idx_int
    wp_walk using wpAny_loadPart' hl
    exact ⟨_, rfl, h⟩
def rRep0 (K : PySem.W.Frag) : R2 := fun x y H Q => ∃ l, x = .ref l ∧ y = .int 2 ∧ SqT K H l [] ∧ Q (.ref l) H
theorem op_rep0 {X : Cx} : OpR X (binaryOp .Mult) (rRep0 X.K) := by
  intro pins s σ H x y v u Q I rx ry h
  obtain ⟨l, rfl, rfl, hT, q⟩ := h
  cases rx
  obtain ⟨t, rfl⟩ := ry
  obtain ⟨its, r, ⟨⟨cls, dd, data, sl⟩, ho, hc, n, hd⟩, hs⟩ := I.tuple hT
  cases r
  simp only at hc hd
  subst hc hd
  exact wpAny_binaryOp_repeat_ref (T := "tuple") (U := "int") (by decide) ⟨_, ho, rfl⟩ (fun s' => typeIs_int s' 2 t) noFill_tuple_mul F.fills_int_mul F.slot_int_rmul repeat_tuple F.slot_int_index.lookup
    (call_meets F.slot_int_rmul (typeIs_int s 2 t) F.entry_int_rmul (F.args_int_rmul_2 _ _) (int_rmul_tuple 2 t l #[] n dd sl) ⟨ho, rfl, ⟨_, ho, rfl⟩, call_meets F.slot_tuple_mul ⟨_, ho, rfl⟩ F.entry_tuple_mul (F.args_tuple_mul_2 _ _) (tuple_mul0 l n dd sl t) ⟨ho, .ref l, H, I, rfl, q⟩⟩)
def rMulT0 (K : PySem.W.Frag) : R2 := fun x y H Q => rRep0 K x y H Q ∨ rMulT K x y H Q
theorem op_mulT0 {X : Cx} : OpR X (binaryOp .Mult) (rMulT0 X.K) := op_rep0.or op_mulT
def rdMulT0 : DR2 := fun x y h Q => (x = .d (.tuple []) ∧ asInt y = some 2 ∧ Q (.d (.tuple [])) h) ∨ rdMulT x y h Q
theorem lr_mulT0 {K : PySem.W.Frag} : LR2 K Γ rdMulT0 (rMulT0 K) := by
  refine ⟨fun x y h Q Q' k w => ?_, fun x y v u H h C' Q rv ru rm w k => ?_⟩
  · rcases w with ⟨a, b, c⟩ | w
    · exact .inl ⟨a, b, k _ _ c⟩
    · exact .inr (lr_mulT (K := K) (Γ := Γ) |>.mono _ _ _ _ _ k w)
  · rcases w with ⟨rfl, b, c⟩ | w
    · have rv0 := rv
      cases rv with
      | tup hs hall =>
        cases hall
        exact .inl ⟨_, rfl, asInt_ok ru b, sqT_up fz_sub hs, k _ _ _ H PX.refl rv0 rm c⟩
    · exact .inr (lr_mulT.run _ _ _ _ _ _ _ _ rv ru rm w k)
end DL

namespace DL
open PySem PySem.Spec PyProof.Rows L2 HT
set_option autoImplicit true

/-! ## xs[::-1] of a list, of a tuple -/
section
variable {prog : Program} {w : World} {A : Around} {E : Value → Shared → Prop} {s : Shared}
theorem places_back (n : Nat) : Builtin.Slice.slicePlaces ((n : Int) - 1) (-1) (-1) = n := by
  unfold Builtin.Slice.slicePlaces
  rw [if_neg (by decide)]
  by_cases h : (n : Int) - 1 > -1
  · rw [if_pos h]
    rw [show -(-1 : Int) = 1 by decide, Int.ediv_one]
    omega
  · rw [if_neg h]
    omega
theorem applied_back {sl : Addr} {vs : Value} {n : Nat} {Q : Int × Int × Nat → Shared → Prop} (hs : s.heap.IsSliceOf sl .none .none vs) (ps : IsPart vs (some (-1)))
    (h : Q ((n : Int) - 1, -1, n) s) : wpAny (model prog w) A (Builtin.Slice.sliceApplied (.ref sl) (pure (n : Int))) Q E s := by
  obtain ⟨os, hos, hcs, hds⟩ := id hs
  unfold Builtin.Slice.sliceApplied Builtin.Slice.sliceFields
  refine wpAny_bind (wpAny_bind (wpAny_field hos hds (x := .none) rfl (wpAny_bind (wpAny_field hos hds (x := .none) rfl (wpAny_bind (wpAny_field hos hds (x := vs) rfl (wpAny_pure ?_)))))))
  refine wpAny_bind (slicePart_ ps ?_)
  show wpAny _ _ (if ((-1 : Int) == 0) = true then _ else _) _ _ s
  rw [if_neg (by decide)]
  refine wpAny_bind (slicePart_none (wpAny_bind (slicePart_none (wpAny_bind (wpAny_pure ?_)))))
  show wpAny _ _ (pure ((n : Int) - 1, (-1 : Int), Builtin.Slice.slicePlaces ((n : Int) - 1) (-1) (-1))) _ _ s
  rw [places_back]
  exact wpAny_pure h
theorem pick_back (xs : Array Value) : ((List.range xs.size).filterMap fun (m : Nat) => xs[(((xs.size : Nat) : Int) - 1 + (m : Int) * (-1)).toNat]?).toArray = xs.toList.reverse.toArray := by
  congr 1
  have e : (List.range xs.size).filterMap (fun (m : Nat) => xs[(((xs.size : Nat) : Int) - 1 + (m : Int) * (-1)).toNat]?) = (List.range xs.size).filterMap (fun m => xs.toList.reverse[m]?) := by
    have go : ∀ l : List Nat, (∀ m ∈ l, m < xs.size) → l.filterMap (fun (m : Nat) => xs[(((xs.size : Nat) : Int) - 1 + (m : Int) * (-1)).toNat]?) = l.filterMap (fun m => xs.toList.reverse[m]?) := fun l => by
      induction l with
      | nil => exact fun _ => rfl
      | cons m l ih =>
        intro hm
        have hl := hm m List.mem_cons_self
        have e1 : (((xs.size : Nat) : Int) - 1 + (m : Int) * (-1)).toNat = xs.size - 1 - m := by omega
        rw [List.filterMap_cons, List.filterMap_cons, ih fun m hm' => hm m (List.mem_cons_of_mem _ hm'), e1, List.getElem?_reverse (by simpa using hl), Array.getElem?_toList, Array.length_toList]
    exact go _ fun m hm => List.mem_range.mp hm
  rw [e]
  have f : ∀ (l : List Value), (List.range l.length).filterMap (fun m => l[m]?) = l := fun l => by
    refine List.ext_getElem? fun i => ?_
    induction l generalizing i with
    | nil => rfl
    | cons a l ih =>
      rw [List.length_cons, List.range_succ_eq_map, List.filterMap_cons]
      simp only [List.getElem?_cons_zero, List.filterMap_map]
      cases i with
      | zero => rfl
      | succ i =>
        rw [List.getElem?_cons_succ, List.getElem?_cons_succ]
        exact ih i
  have := f xs.toList.reverse
  rwa [List.length_reverse, Array.length_toList] at this
theorem getItem_tuple_back {t sl : Addr} {items : Array Value} {vs : Value} {Q : Value → Shared → Prop} (ht : IsTup s.heap t items) (hs : s.heap.IsSliceOf sl .none .none vs) (ps : IsPart vs (some (-1)))
    (h : Q (.ref s.heap.objs.size) { s with heap := s.heap.push { cls := .type "tuple", data := .seq items.toList.reverse.toArray } })
    (hsz : items.size ≤ sizeLine) : wpAny (model prog w) A (getItem (.ref t) (.ref sl)) Q E s := by
  have htake : sizeOk (.seq items.toList.reverse.toArray) := by
    show (items.toList.reverse.toArray).size ≤ sizeLine
    rw [List.size_toArray, List.length_reverse, Array.length_toList]
    exact hsz
  obtain ⟨os, hos, hcs, hds⟩ := id hs
  have hTs : s.TypeIs (.ref sl) "slice" := ⟨os, hos, hcs⟩
  unfold getItem
  try with_reducible refine wpAny_holding ?_
  first | refine wpAny_bind (wpAny_pure ?_) | skip
  refine wpAny_bind (wpAny_sequenceKey ht.typeIs (by decide) ?_)
  refine wpAny_bind (wpAny_callSpecial?_slot (name := Str.ofString "__getitem__") ht.typeIs PyProof.Rows.slot_tuple_getitem
    (wpAny_call_entry PyProof.Rows.slot_tuple_getitem ht.typeIs entry_tuple_getitem ?_ (args_tuple_getitem _ _)))
  show wpAny _ _ (Builtin.Tuple.tupleItemsOf (.ref t) >>= _) _ _ s
  refine wpAny_bind (tupleItemsOf_ ht ?_)
  refine wpAny_bind (wpAny_typeOf hTs ?_)
  rw [if_pos (by decide)]
  refine wpAny_bind (applied_back hs ps ?_)
  have hno : ¬ ((((items.size : Nat) : Int) - 1 == 0 && (-1 : Int) == 1 && items.size == items.size) = true) := by
    intro q
    rw [Bool.and_eq_true, Bool.and_eq_true] at q
    exact absurd q.1.2 (by decide)
  show wpAny _ _ (if (((items.size : Nat) : Int) - 1 == 0 && (-1 : Int) == 1 && items.size == items.size) = true then _ else _) _ _ s
  rw [if_neg hno, pick_back]
  first
    | exact wpAny_bind (m := Builtin.Tuple.tupleExact _) (wpAny_newObj_type (wpAny_pure ⟨_, rfl, wpAny_pure h⟩) htake)
    | exact wpAny_bind (m := Builtin.Tuple.tupleExact _) (wpAny_newObj_type (wpAny_bind (wpAny_pure (wpAny_pure ⟨_, rfl, wpAny_pure h⟩))) htake)
    | exact wpAny_bind (wpAny_bind (m := Builtin.Tuple.tupleExact _) (wpAny_newObj_type (wpAny_pure (wpAny_pure ⟨_, rfl, wpAny_pure h⟩)) htake))
    | exact wpAny_bind (wpAny_bind (m := Builtin.Tuple.tupleExact _) (wpAny_newObj_type (wpAny_pure ⟨_, rfl, wpAny_pure h⟩) htake))
end
section
variable {X : Cx} {Γ : GI} {a b c e : Expr} {pos p2 : Pos} {ta tb tc te : DTE} {tg : Expr}
def tRevA (K : PySem.W.Frag) (te : TE) : TE := fun σ H Q => te σ H fun x H1 => ∃ a xs, x = .ref a ∧ ((SqL K H1 a xs ∧ ∀ p, H1 p = none → Q (.ref p) (upd H1 p (.lst xs.reverse))) ∨ (SqT K H1 a xs ∧ ∀ p, H1 p = none → Q (.ref p) (upd H1 p (.tup xs.reverse))))
theorem pe_revA {e : Expr} {te : TE} {k : Nat} {p1 p2 p3 pos : Pos} (he : PE X e te) : PE X (.Subscript e (.Slice none none (some (.UnaryOp .USub (.Constant (.int 1) k p1) p2)) p3) pos) (tRevA X.K te) := by
  refine ⟨fun pins s σ H Q I h => ?_⟩
  refine Subscript_ (thn (he.run pins s σ H _ I h) fun v s1 ⟨x, H1, I1, r1, q1⟩ => ?_)
  obtain ⟨a, xs, ex, q1⟩ := q1
  subst ex
  cases r1
  have hst : PO X (some (.UnaryOp .USub (.Constant (.int 1) k p1) p2)) (tPart (tUn (rU fun i => .int (-i)) (tC (.int 1)))) := po_some (pe_un un_neg pe_int)
  refine wpAny_Slice (thn (po_none.run pins s1 σ H1 (fun o H2 => o = none ∧ H2 = H1) I1 ⟨rfl, rfl⟩) fun vl s2 ⟨l, H2, I2, pl, el, e2⟩ => ?_)
  subst el e2
  refine thn (po_none.run pins s2 σ H2 (fun o H3 => o = none ∧ H3 = H2) I2 ⟨rfl, rfl⟩) fun vu s3 ⟨u, H3, I3, pu, eu, e3⟩ => ?_
  subst eu e3
  refine thn (hst.run pins s3 σ H3 (fun o H4 => o = some (-1) ∧ H4 = H3) I3 ⟨1, rfl, -1, rfl, rfl, rfl⟩) fun vs s4 ⟨o, H4, I4, ps, eo, e4⟩ => ?_
  subst eo e4
  have I5 : Inv X pins σ H4 { s4 with heap := s4.heap.push { cls := .type "slice", data := .fields #[vl, vu, vs] } } := I4.kept (t' := s4.toks) fun b ob q => Heap.get?_push_of_some _ q
  show wpAny (model X.prog X.w) X.A (subscriptTail e (.Slice none none (some (.UnaryOp .USub (.Constant (.int 1) k p1) p2)) p3) (.ref a) (.ref s4.heap.objs.size)) (EP X pins σ Q) X.xe { s4 with heap := s4.heap.push { cls := .type "slice", data := .fields #[vl, vu, vs] } }
  rcases q1 with ⟨hx, q⟩ | ⟨hx, q⟩
  · obtain ⟨its, r, ht, hz⟩ := I5.list hx
    have hlen := r.length
    refine tail_any (ops := [.ref a, .ref s4.heap.objs.size]) ht.isList.typeIs (PySem.slot_list_getitem.lookup) ?_ (by with_unfolding_all rfl)
    refine wpAny_getItem_list_slice ht.isList (Heap.IsSliceOf.new _ vl vu vs) pl pu ps (by decide) ?_ (by rw [List.size_toArray]; omega)
    rw [PySem.W.krv_pick]
    refine ⟨.ref _, _, I5.laid (t' := s4.toks) (o := .lst xs.reverse) (fun b ob q => Heap.get?_push_of_some _ q) (Nat.le_refl _) ?_, rfl, q _ (I5.hok.fresh (Nat.le_refl _))⟩
    exact ⟨by rw [List.length_reverse]; exact hz, _, 0, r.reverse, Heap.get?_push_size _ rfl⟩
  · cases pl
    cases pu
    obtain ⟨its, r, ht, hz⟩ := I5.tuple hx
    have hlen := r.length
    refine tail_any (ops := [.ref a, .ref s4.heap.objs.size]) ht.typeIs (PyProof.Rows.slot_tuple_getitem.lookup) ?_ (by with_unfolding_all rfl)
    refine getItem_tuple_back ht (Heap.IsSliceOf.new _ .none .none vs) ps ?_ (by rw [List.size_toArray]; omega)
    refine ⟨.ref _, _, I5.laid (t' := s4.toks) (o := .tup xs.reverse) (fun b ob q => Heap.get?_push_of_some _ q) (Nat.le_refl _) ?_, rfl, q _ (I5.hok.fresh (Nat.le_refl _))⟩
    exact ⟨by rw [List.length_reverse]; exact hz, _, r.reverse, IsTup.new _ _⟩
def dRevA (te : DTE) : DTE := fun σ h Q => te σ h fun x h1 => match asL h1 x with
  | some xs => Q (.d (.list xs.reverse)) h1
  | none => match asT x with
    | some xs => Q (.d (.tuple xs.reverse)) h1
    | none => False
theorem de_revA {k : Nat} {p1 p2 p3 : Pos} (he : DE X Γ e te) : DE X Γ (.Subscript e (.Slice none none (some (.UnaryOp .USub (.Constant (.int 1) k p1) p2)) p3) pos) (dRevA te) :=
  ⟨fun σ h Q Q' k w => he.mono _ _ _ _ (fun x h1 w1 => by
    split at w1
    · exact k _ _ w1
    · split at w1
      · exact k _ _ w1
      · exact w1) w, pe_imp (pe_revA he.pe) fun σ H Q ⟨σd, h, rs, rm, w⟩ => lift_mk he.mono rs rm w fun x h1 v H1 px rs1 rv rm1 w1 => by
      split at w1
      · rename_i xs e1
        obtain ⟨a, vs, rfl, s1, d1⟩ := asL_ok rv rm1 e1
        refine ⟨a, vs, rfl, .inl ⟨s1, fun p hp => ?_⟩⟩
        obtain ⟨p2, rm2, rv2⟩ := new_list hp rm1 (dps_rev d1)
        exact w1 _ _ (px.trans p2) rv2 rm2
      · split at w1
        · rename_i xs e1
          obtain ⟨a, vs, rfl, s1, d1⟩ := asT_ok rv e1
          refine ⟨a, vs, rfl, .inr ⟨s1, fun p hp => ?_⟩⟩
          obtain ⟨p2, rm2, rv2⟩ := new_tup hp rm1 (dps_rev d1)
          exact w1 _ _ (px.trans p2) rv2 rm2
        · exact w1.elim⟩
theorem e_revA {σ : DSt} {h : MH} {Q : DK} {t : DTE} (k : t σ h fun x h1 => match asL h1 x with
  | some xs => Q (.d (.list xs.reverse)) h1
  | none => match asT x with
    | some xs => Q (.d (.tuple xs.reverse)) h1
    | none => False) : dRevA t σ h Q := k
end
end DL

namespace DL
open PySem PySem.Spec PyProof.Rows L2
set_option autoImplicit true

/-! ## except (A, B) as n -/
theorem push_flying {base : Heap} {l : List Env} {e : Addr} {Z : Obj → Prop} {h : Heap} {o : Obj} (f : HandSPX.FlyingZ base l e Z h) : HandSPX.FlyingZ base l e Z (h.push o) := by
  obtain ⟨k1, k2, k3, oe, vs, T, oT, ts', he, hz, hd, h1, hr1, hr2, hr3, hr4, hr5⟩ := f
  have kp : ∀ q u, h.get? q = some u → (h.push o).get? q = some u := fun _ _ z => Heap.get?_push_of_some _ z
  exact ⟨fun b u q => kp _ _ (k1 b u q), k2, k3.of_keeps fun b u q _ => ⟨u, kp _ _ q, rfl⟩, oe, vs, T, oT, ts', kp _ _ he, hz, hd, h1, hr1, hr2, kp _ _ hr3, hr4, hr5⟩
def wAs2 (K : PySem.W.Frag) (c1 c2 : Value) (i : Nat) (ts : Addr → Value → Option Addr → TS) (Wout : WX) (D : Ends) : WX := fun cls d σ H =>
  ∃ b, PySem.W.exmAny K cls [c1, c2] = some b ∧ (b = true → ∀ a, H a = none → ts a cls d { nx := fun σ' H' => D.nx (σ'.set i none) H', rt := D.rt, bk := fun σ' H' => D.bk (σ'.set i none) H', ct := fun σ' H' => D.ct (σ'.set i none) H' } (σ.set i (some (.ref a))) H) ∧
    (b = false → Wout cls d σ H)
section
variable {X : Cx} {x x2 n : Str} {c c2 : Value} {i : Nat} {body suite : List Stmt} {b₀ : Stmt} {np np2 pos pos' pt : Pos} {kt' : Nat} {tb : WX → TS} {ts : Addr → Value → Option Addr → TS} {Wout : WX}
theorem ps_try_as2 (hs : X.stack = X.env :: X.outer) (hf : X.env.frame = some X.env.locals) (hN : X.N.Nodup) (hi : X.N[i]? = some n) (hln : X.env.kindOf n = some .local) (hc : Names X x c) (hc2 : Names X x2 c2) (tk : Takes X Wout)
    (hb : ∀ (W : WX) (pn : List (Addr × Obj)) (xe : Value → Shared → Prop), Takes (X.tr pn xe) W → PassesOwn (model X.prog X.w) X.A X.env xe → PSs (X.tr pn xe) body (tb W))
    (hsu : ∀ (a : Addr) (oe : Obj) (cls : Value) (d : Option Addr) (pn : List (Addr × Obj)), Zc cls d oe → (∃ vs, oe.data = .fields vs) → PSs (X.suite a ((a, oe) :: pn)) (b₀ :: suite) (ts a cls d)) :
    PS X (.Try body [.ExceptHandler (some (.Tuple [.Name x np, .Name x2 np2] kt' pt)) (some n) (b₀ :: suite) pos'] [] [] pos) (fun D σ H => tb (wAs2 X.K c c2 i ts Wout D) D σ H) := by
  refine ⟨fun pins s σ H D I h => ?_⟩
  have ok := I.ok
  have hfr : X.A.frames = some (X.env :: X.outer) := by rw [ok.frames, hs]
  have hloc : Loc X.env.scope n := .inl hln
  refine wpAny_Try_except ?_
  refine wpAny_mono ((hb (wAs2 X.K c c2 i ts Wout D) (X.pn ++ pins) (fun e s₁ => wpAny (model X.prog X.w) X.A (noteFrame e X.env) (fun _ s₂ => wpAny (model X.prog X.w) X.A (setFlight e none) (fun _ s₃ =>
    wpAny (model X.prog X.w) X.A (handleBy e X.env [.ExceptHandler (some (.Tuple [.Name x np, .Name x2 np2] kt' pt)) (some n) (b₀ :: suite) pos']) (SP X pins D) X.xe s₃) X.xe s₂) X.xe s₁) (fun u s' xx => ?_) PassesOwn.looking).run [] s σ H D (I.toTry _) h) (fun f s1 hsp => ?_) (fun e s1 he => he)
  · -- the catch
    obtain ⟨a, B, sI, pins', σ', H', cls, d, rfl, J', nb, up, sky, na, os, ag, b, hb1, hyes, hno⟩ := xx
    have J : Inv X pins σ' H' sI := J'.ofTry ok
    have sky' : Sky B (X.env :: X.outer) a (Zc cls d) X.env.locals s'.heap := by rw [← hs]; exact sky
    show wpAny (model X.prog X.w) X.A (noteFrame (.ref a) X.env) _ _ _
    refine Sky.land Zc.steady hfr hf sky' fun h2 fl2 up2 => ?_
    have J2 : Inv X pins σ' H' { s' with heap := h2 } := J.landed nb fl2.1 (up.trans up2) os ag
    obtain ⟨oe2, vs2, he2, hz2, hd2⟩ := fl2.there
    have notFr : ∀ {h : Heap} {o : Obj} {vs : Array Value}, h.FunFrames B (X.env :: X.outer) → h.get? a = some o → o.data = .fields vs → a ∉ frs (X.env :: X.outer) := fun {h o vs} ff e dd hm => by
      obtain ⟨_, o', e', hnf⟩ := ff.mem hm
      rw [e] at e'; cases e'
      exact hnf _ dd
    have nfr := notFr fl2.2.2.1 he2 hd2
    have nL : a ≠ X.env.locals := fun z => nfr (List.mem_filterMap.mpr ⟨X.env, List.mem_cons_self, by rw [hf, z]⟩)
    have nF : a ∉ X.fs := fun hm => by
      obtain ⟨e, he, q⟩ := List.mem_filterMap.mp hm
      exact nfr (List.mem_filterMap.mpr ⟨e, List.mem_cons_of_mem _ he, q⟩)
    have S2 := J2.suite he2 hd2 na nL nF
    refine wpAny_handleBy_cons (codeAny_handlers_test ?_) (by intro q; cases q)
    have test : ∀ {y : Str} {cv : Value} {p : Pos} {Q : Value → Shared → Prop} {E : Value → Shared → Prop}, Names X y cv → Q cv { s' with heap := h2 } → wpAny (model X.prog X.w) (X.A.mark (some (.ref a))) (eval (.Name y p) X.env) Q E { s' with heap := h2 } := fun {y cv p Q E} hcy q => by
      obtain ⟨hg, hdbg, hm | ⟨hm, hv, hnn⟩⟩ := hcy
      · exact ld_glob (X := X.suite a ((a, oe2) :: (X.pn ++ pins))) S2 hg hm q hdbg
      · exact ld_blt (X := X.suite a ((a, oe2) :: (X.pn ++ pins))) S2 hg hm hv q hnn hdbg
    refine wpAny_Tuple (wpAny_items_cons (test hc (wpAny_items_cons (test hc2 (wpAny_items_nil ⟨by size_fits, ?_⟩)))))
    have kp : ∀ q o, h2.get? q = some o → (h2.push { cls := .type "tuple", data := .seq [c, c2].toArray }).get? q = some o := fun _ _ z => Heap.get?_push_of_some _ z
    have fl3 := push_flying (o := { cls := .type "tuple", data := .seq [c, c2].toArray }) fl2
    have up3 := up2.trans (Heap.UpToSlots.of_keeps kp)
    obtain ⟨h3, eh3⟩ : ∃ h3, h2.push { cls := .type "tuple", data := .seq [c, c2].toArray } = h3 := ⟨_, rfl⟩
    have hp3 : h3.get? h2.objs.size = some { cls := .type "tuple", data := .seq [c, c2].toArray } := by rw [← eh3]; exact Heap.get?_push_size h2 rfl
    show wpAny _ _ (excMatches (.ref a) (.ref h2.objs.size)) _ _ { s' with heap := h2.push { cls := .type "tuple", data := .seq [c, c2].toArray } }
    rw [eh3] at fl3 up3 ⊢
    have J3 : Inv X pins σ' H' { s' with heap := h3 } := J.landed nb fl3.1 (up.trans up3) os ag
    obtain ⟨oe3, vs3, he3, hz3, hd3⟩ := fl3.there
    have LT : PySem.W.Looks (model X.prog X.w) h3 (typeOf (.ref a)) cls := fun A Q E s k q => wpAny_typeOf_ref (k _ _ he3) (by rw [hz3.1]; exact q)
    have LM := PySem.W.exm_tup2 (M := model X.prog X.w) (J3.kIn) LT hp3 hb1
    refine LM.here ?_
    cases b with
    | true =>
      refine codeAny_handlers_suite_as ?_
      refine HandSPX.lands_againZ fl3 fun h4 fl4 up4 => ?_
      have J4 : Inv X pins σ' H' { s' with heap := h4 } := J.landed nb fl4.1 ((up.trans up3).trans up4) os ag
      obtain ⟨oe4, vs4, he4, hz4, hd4⟩ := fl4.there
      have S4 := J4.suite he4 hd4 na nL nF
      refine store_ok (X := X.suite a ((a, oe4) :: (X.pn ++ pins))) (v := .ref a) S4 hN hi hloc rfl (fun s5 S5 => ?_) (.inr hln)
      refine wpAny_mono ((hsu a oe4 cls d (X.pn ++ pins) hz4 ⟨_, hd4⟩).run [] s5 _ H' _ S5 (hyes rfl a na)) (fun f s6 hsp => ?_) (fun _ _ z => False.elim z)
      have end_ : ∀ {σ6 : L2.St} {H6 : Hp} {Q : Shared → Prop}, Inv (X.suite a ((a, oe4) :: (X.pn ++ pins))) [] σ6 H6 s6 → (∀ s7, Inv X pins (σ6.set i none) H6 s7 → Q s7) →
          wpAny (model X.prog X.w) X.A (do bindName X.env n .none; unbindBehindTheSuite X.env n pos') (fun _ s7 => Q s7) X.xe s6 := fun {σ6 H6 Q} S6 hq => gone_ok (S6.unsuite ok) hN hi hln hq
      cases f with
      | next =>
        obtain ⟨σ6, H6, S6, q6⟩ := hsp
        exact end_ S6 fun s7 J7 => ⟨_, _, J7, q6⟩
      | brk =>
        obtain ⟨σ6, H6, S6, q6⟩ := hsp
        exact end_ S6 fun s7 J7 => ⟨_, _, J7, q6⟩
      | cont =>
        obtain ⟨σ6, H6, S6, q6⟩ := hsp
        exact end_ S6 fun s7 J7 => ⟨_, _, J7, q6⟩
      | ret u =>
        obtain ⟨v6, σ6, H6, S6, r6, q6⟩ := hsp
        exact end_ S6 fun s7 J7 => ⟨_, _, _, J7, r6, q6⟩
    | false =>
      show wpAny _ X.A (handleBy (.ref a) X.env []) _ _ _
      refine wpAny_handleBy_nil ?_
      obtain ⟨k1, k2, k3, oe, vs, T, oT, ts', he, hz, hd, h1, hr⟩ := id fl3
      unfold PySem.passOn
      refine wpAny_bind (wpAny_field he hd h1 ?_)
      rw [if_neg (show ¬ ((Value.ref T == Value.none) = true) from by simp)]
      have fin : wpAny (model X.prog X.w) X.A (setFlight (.ref a) X.env.frame) (fun _ s4 => wpAny (model X.prog X.w) X.A (throw (.ref a) : Sem Flow) (SP X pins D) X.xe s4) X.xe { s' with heap := h3 } := by
        rw [hf]
        refine HandSPX.setFlight_upZ fl3 fun h4 hh4 up4 => wpAny_throw (tk _ _ ?_)
        exact ⟨a, B, sI, pins, σ', H', cls, d, rfl, J, nb, (up.trans up3).trans up4, .inr (.inr (by rw [hs]; exact hh4)), na, os, ag, hno rfl⟩
      first
        | exact wpAny_bind (wpAny_pure (wpAny_bind fin))
        | exact wpAny_bind fin
  · cases f with
    | next =>
      obtain ⟨σ', H', J', q⟩ := hsp
      exact wpAny_execs_nil ⟨σ', H', J'.ofTry ok, q⟩
    | brk =>
      obtain ⟨σ', H', J', q⟩ := hsp
      exact ⟨σ', H', J'.ofTry ok, q⟩
    | cont =>
      obtain ⟨σ', H', J', q⟩ := hsp
      exact ⟨σ', H', J'.ofTry ok, q⟩
    | ret u =>
      obtain ⟨v, σ', H', J', r, q⟩ := hsp
      exact ⟨v, σ', H', J'.ofTry ok, r, q⟩
end
/-- both clauses' classes known -/
def twoK (kt : Str → Str → Option Bool) (c n1 n2 : Str) : Option Bool := match kt c n1, kt c n2 with
  | some a, some b => some (a || b)
  | _, _ => none
def dWas2 (kt : Str → Str → Option Bool) (n1 n2 : Str) (i : Nat) (ts : Addr → DExc → DTS) (Eo : DXS) (D : DEnds) : DXS := fun y σ h => ∃ b, twoK kt y.cls n1 n2 = some b ∧
  (b = true → ∀ a, h a = none → ts a y (clrN i D) (σ.set i (some (.own a))) h) ∧ (b = false → Eo y σ h)
def dTryAs2 (kt : Str → Str → Option Bool) (n1 n2 : Str) (i : Nat) (tb : DXS → DTS) (ts : Addr → DExc → DTS) (Eo : DXS) : DTS := fun D σ h =>
  ∃ (E0 : DXS) (D0 : DEnds), (∀ y σ' h', E0 y σ' h' → dWas2 kt n1 n2 i ts Eo D y σ' h') ∧ DEnds.Le D0 D ∧ tb E0 D0 σ h
theorem tryAs2_mk {kt : Str → Str → Option Bool} {n1 n2 : Str} {i : Nat} {tb : DXS → DTS} {ts : Addr → DExc → DTS} {Eo : DXS} {D : DEnds} {σ : DSt} {h : MH} (w : tb (dWas2 kt n1 n2 i ts Eo D) D σ h) : dTryAs2 kt n1 n2 i tb ts Eo D σ h := ⟨_, _, fun _ _ _ z => z, le_refl, w⟩
section
variable {X : Cx} {x x2 n : Str} {cv cv2 : Value} {i : Nat} {body suite : List Stmt} {b₀ : Stmt} {np np2 pos pos' pt : Pos} {kt' : Nat} {kt : Str → Str → Option Bool} {tb : DXS → DTS} {ts : Addr → DExc → DTS} {Eo : DXS}
theorem ds_tryAs2 (i : Nat) (hs : X.stack = X.env :: X.outer) (hf : X.env.frame = some X.env.locals) (hN : X.N.Nodup) (hc : Names X x cv) (hc2 : Names X x2 cv2) (hkt : ∀ c b, kt c x = some b → PySem.W.exmOne X.K (.ref (He.ga X.K c)) cv = some b) (hkt2 : ∀ c b, kt c x2 = some b → PySem.W.exmOne X.K (.ref (He.ga X.K c)) cv2 = some b) (tk : Takes X (liftX X.K Γ Eo))
    (hb : ∀ (Γ1 : GI), Γ1.T = Γ.T → ∀ (Ed : DXS) (pn : List (Addr × Obj)) (xe : Value → Shared → Prop), Takes (X.tr pn xe) (liftX X.K Γ1 Ed) → PassesOwn (model X.prog X.w) X.A X.env xe → DSs (X.tr pn xe) Γ1 body (tb Ed))
    (hsu : ∀ (Γ1 : GI), Γ1.T = Γ.T → ∀ (a : Addr) (oe : Obj) (y : DExc) (d : Option Addr) (pn : List (Addr × Obj)), Zc (.ref (He.ga X.K y.cls)) d oe → (∃ vs, oe.data = .fields vs) → DSs (X.suite a ((a, oe) :: pn)) (Γ1.exc X.K y (.ref (He.ga X.K y.cls)) d) (b₀ :: suite) (ts a y))
    (hi : X.N[i]? = some n := by rfl) (hln : X.env.kindOf n = some .local := by rfl) :
    DS X Γ (.Try body [.ExceptHandler (some (.Tuple [.Name x np, .Name x2 np2] kt' pt)) (some n) (b₀ :: suite) pos'] [] [] pos) (dTryAs2 kt x x2 i tb ts Eo) := by
  have ms : ∀ a y, MonoS (ts a y) := fun a y => (hsu Γ rfl a { cls := .ref (He.ga X.K y.cls), dict := none, data := .fields #[] } y none [] ⟨rfl, rfl⟩ ⟨_, rfl⟩).mono
  have clrLe : ∀ {D D' : DEnds}, DEnds.Le D D' → DEnds.Le (clrN i D) (clrN i D') := fun l => ⟨fun _ _ z => l.nx _ _ z, l.rt, fun _ _ z => l.bk _ _ z, fun _ _ z => l.ct _ _ z⟩
  have hany : ∀ c b, twoK kt c x x2 = some b → PySem.W.exmAny X.K (.ref (He.ga X.K c)) [cv, cv2] = some b := fun c b e => by
    unfold twoK at e
    split at e
    · rename_i a b e1 e2
      cases e
      unfold PySem.W.exmAny
      rw [hkt _ _ e1]
      unfold PySem.W.exmAny
      rw [hkt2 _ _ e2]
      unfold PySem.W.exmAny
      simp
    · cases e
  refine ⟨?_, ?_⟩
  · rintro D D' σ h l ⟨E0, D0, hE, hD, w⟩
    refine ⟨E0, D0, fun y σ' h' z => ?_, le_trans hD l, w⟩
    obtain ⟨b, e, p, q⟩ := hE y σ' h' z
    exact ⟨b, e, fun eb a na => ms _ _ _ _ _ _ (clrLe l) (p eb a na), q⟩
  · let tsR : Addr → Value → Option Addr → TS := fun a cls d D σ H => ∃ (Γ1 : GI) (y : DExc), Γ1.T = Γ.T ∧ cls = .ref (He.ga X.K y.cls) ∧ liftS X.K (Γ1.exc X.K y cls d) (ts a y) D σ H
    let tbR : WX → TS := fun W D σ H => ∃ (Γ1 : GI) (Ed : DXS) (D0 : DEnds) (σd : DSt) (h : MH), Γ1.T = Γ.T ∧ (∀ cls d σ' H', liftX X.K Γ1 Ed cls d σ' H' → W cls d σ' H') ∧ RSt X.K Γ1 H h σd σ ∧ RM X.K Γ1 H h ∧ DEnds.Le D0 (liftE X.K Γ1 H h D) ∧ tb Ed D0 σd h
    refine ps_imp (ps_try_as2 (c := cv) (c2 := cv2) (i := i) (tb := tbR) (ts := tsR) (Wout := liftX X.K Γ Eo) hs hf hN hi hln hc hc2 tk (fun W pn xe tk' ps => ?_) fun a oe cls d pn hz hfl => ?_) fun D σ H ⟨σd, h, rs, rm, E0, D0, hE, hD, w⟩ => ?_
    · exact ⟨fun pins s σ H D I ⟨Γ1, Ed, D0, σd, h, hT, le, rs, rm, l, w⟩ => by
        have der := hb Γ1 hT Ed pn xe (tk'.imp le) ps
        exact der.ps.run pins s σ H D I ⟨σd, h, rs, rm, der.mono _ _ _ _ l w⟩⟩
    · exact ⟨fun pins s σ H D I ⟨Γ1, y, hT, ec, w⟩ => by
        subst ec
        exact (hsu Γ1 hT a oe y d pn hz hfl).ps.run pins s σ H D I w⟩
    · refine ⟨Γ.at H h, E0, D0, σd, h, rfl, fun cls d σ' H' ⟨y, σd', h', rs', rm', rx, e⟩ => ?_, rs, rm.at, ?_, w⟩
      · obtain ⟨b, hb1, hyes, hno⟩ := hE _ _ _ e
        refine ⟨b, by rw [rx.1]; exact hany _ _ hb1, fun q a na => ?_, fun q => ⟨y, σd', h', rs', rm'.un, rx, hno q⟩⟩
        refine ⟨Γ.at H h, y, rfl, rx.1, σd'.set i (some (.own a)), h', ?_, ⟨rm'.ob, ⟨rm'.g, rx⟩, rm'.nx, rm'.tb⟩, ms _ _ _ _ _ _ ?_ (hyes q a (rm'.tracked na))⟩
        · exact RSt.set (Γ := Γ) (x := .own a) (v := .ref a) rs' rfl
        · exact ⟨fun σd2 h2 z σ2 H2 px rs2 rm2 => z _ H2 rm2.g.1.2 (RSt.clr (Γ := Γ) rs2 none) rm2.unE.un, fun v2 h2 z v H2 px rv2 rm2 => z v H2 rm2.g.1.2 rv2 rm2.unE.un,
            fun σd2 h2 z σ2 H2 px rs2 rm2 => z _ H2 rm2.g.1.2 (RSt.clr (Γ := Γ) rs2 none) rm2.unE.un, fun σd2 h2 z σ2 H2 px rs2 rm2 => z _ H2 rm2.g.1.2 (RSt.clr (Γ := Γ) rs2 none) rm2.unE.un⟩
      · exact le_trans hD ⟨fun σd2 h2 z σ2 H2 px rs2 rm2 => z σ2 H2 px rs2 rm2.un, fun v2 h2 z v H2 px rv2 rm2 => z v H2 px rv2 rm2.un, fun σd2 h2 z σ2 H2 px rs2 rm2 => z σ2 H2 px rs2 rm2.un, fun σd2 h2 z σ2 H2 px rs2 rm2 => z σ2 H2 px rs2 rm2.un⟩
end
end DL

namespace DL
open PySem PySem.Spec PyProof.Rows L2
set_option autoImplicit true

/-! ## xs.count(x), xs.insert(i, x), a[i], a[j] = x, y -/
def rCountD (K : PySem.W.Frag) : V → List V → Hp → VK → Prop := fun x xs H Q => ∃ (a : Addr) (y : V) (d : PyData) (ds : List PyData), x = V.ref a ∧ xs = [y] ∧ Dp K H (V.ref a) (.list ds) ∧ Dp K H y d ∧
  SeqAt.shaped (.list ds) = true ∧ SeqAt.shaped d = true ∧ Q (.int ((ds.countP fun z => PyData.eqv z d : Nat))) H
theorem mt_countD {X : Cx} (hu : X.A.units + 65 < cLine) : MtR X "list.count" (rCountD X.K) := by
  intro pins s σ H x xs v us Q I rx rxs h
  obtain ⟨a, y, d, ds, rfl, rfl, hl, hy, sl, sd, q⟩ := h
  cases rx
  cases rxs with
  | cons ry rt =>
    rename_i uy ut
    cases rt
    obtain ⟨bs, r1⟩ := Dp.reads I d y uy hy ry
    have hxs : PyData.canLayAll0 ds = true := SeqAt.canLay_of_shaped sl
    have hroom : X.A.units + 1 + min (PyData.depthAll ds) d.depth < cLine := room_in_shaped sd hu
    cases hl with
    | lst hs ha =>
      obtain ⟨its, rv, ⟨⟨cls, dd, data, sls⟩, n, ho, hc, hdn, hdt⟩, hlen⟩ := I.list hs
      simp only at hc hdt
      subst hc hdt
      obtain ⟨as, h4⟩ := Dp.readsAll I ds _ its ha rv
      have hmap : its.map (SeqAt.readOf s.heap) = ds := SeqAt.readsAll_map ds its as hxs h4
      have hcount : (its.toArray.toList.countP fun u => PyData.eqv (SeqAt.readOf s.heap u) d) = ds.countP fun z => PyData.eqv z d := by
        rw [← hmap, List.countP_map]
        rfl
      refine call_meets PySem.F.slot_list_count ⟨_, ho, rfl⟩ PySem.F.entry_list_count (PySem.F.args_list_count_2 _ _)
        (SeqAt.list_countAt a its.toArray n dd sls uy (fun u => PyData.eqv (SeqAt.readOf s.heap u) d)) ⟨ho, SeqAt.items_eqAt (vs := its.toArray) (show ReadsAll s.heap its.toArray.toList ds as from h4) r1 hxs (SeqAt.canLay_of_shaped sd) hroom, ?_⟩
      rw [hcount]
      exact ⟨.int (ds.countP fun z => PyData.eqv z d : Nat), H, I.tok _, ⟨_, rfl⟩, q⟩
def rdCount : DRM := fun x xs h Q => match xs with
  | [y] => match asL h x, asD h y with
    | some ds, some d => SeqAt.shaped (.list ds) = true ∧ SeqAt.shaped d = true ∧ Q (.d (.int ((ds.countP fun z => PyData.eqv z d : Nat)))) h
    | _, _ => False
  | _ => False
theorem lm_count {K : PySem.W.Frag} : LRM K Γ rdCount (rCountD K) := by
  refine ⟨fun x xs h Q Q' k w => ?_, fun x v xs vs H h C Q rv r rm w k => ?_⟩
  · unfold rdCount at w ⊢
    split at w
    · split at w
      · exact ⟨w.1, w.2.1, k _ _ w.2.2⟩
      · exact w
    · exact w
  · unfold rdCount at w
    split at w
    · obtain ⟨u, rfl, ru⟩ := rvs1 r
      split at w
      · rename_i ds d e1 e2
        have rd := asD_ok rv rm (asL_D e1)
        have ry := asD_ok ru rm e2
        cases rd with
        | @lst a zs _ q1 q2 => exact ⟨a, u, d, ds, rfl, rfl, .lst q1 q2, ry, w.1, w.2.1, k _ _ _ H PX.refl rv_int rm w.2.2⟩
      · exact w.elim
    · exact w.elim
def rInsV : V → List V → Hp → VK → Prop := fun x vs H Q => ∃ (l : Addr) (xs : List V) (i : Int) (y : V), x = .ref l ∧ vs = [.int i, y] ∧ H l = some (.lst xs) ∧ xs.length < sizeLine ∧ 0 ≤ i ∧ i < 2 ^ 63 ∧
    Q .non (upd H l (.lst (xs.take i.toNat ++ [y] ++ xs.drop i.toNat)))
def rdInsert : DRM := fun x xs h Q => match xs with
  | [i, .d y] => match ownL h x, asInt i with
    | some (a, ds), some j => ds.length < sizeLine ∧ 0 ≤ j ∧ j < 2 ^ 63 ∧ Q (.d .none) (mput h a (.lst (ds.take j.toNat ++ [y] ++ ds.drop j.toNat)))
    | _, _ => False
  | _ => False
theorem rvs2d {K : PySem.W.Frag} {H : Hp} {h : MH} {x : SV} {y : SV} {vs : List V} (r : RVs K Γ H h [x, y] vs) : ∃ u v, vs = [u, v] ∧ RV K Γ H h x u ∧ RV K Γ H h y v := by
  cases r with
  | cons a r => cases r with
    | cons b r => cases r; exact ⟨_, _, rfl, a, b⟩
theorem lm_insert {K : PySem.W.Frag} : LRM K Γ rdInsert rInsV := by
  refine ⟨fun x xs h Q Q' k w => ?_, fun x v xs vs H h C Q rv r rm w k => ?_⟩
  · unfold rdInsert at w ⊢
    split at w
    · split at w
      · exact ⟨w.1, w.2.1, w.2.2.1, k _ _ w.2.2.2⟩
      · exact w
    · exact w
  · unfold rdInsert at w
    split at w
    · rename_i i y
      obtain ⟨u1, u2, rfl, r1, r2⟩ := rvs2d r
      split at w
      · rename_i a ds j e1 e2
        obtain ⟨ex, ea⟩ := ownL_ok e1
        subst ex
        have ev : v = .ref a := rv
        subst ev
        obtain ⟨ws, f1, f2⟩ := rm.ob a _ ea
        have hd : DpAll K (Fz Γ H h) (ws.take j.toNat ++ [u2] ++ ws.drop j.toNat) (ds.take j.toNat ++ [y] ++ ds.drop j.toNat) := dps_app (dps_app (dps_take _ f2) (.cons r2 .nil)) (dps_drop _ f2)
        exact ⟨a, ws, j, u2, rfl, by rw [asInt_ok r1 e2], f1, by rw [dps_len f2]; exact w.1, w.2.1, w.2.2.1, k _ _ _ _ (put_px ea rm) rv_non (put_rm ea rm hd) w.2.2.2⟩
      · exact w.elim
    · exact w.elim
/-- a store, its wish -/
def setKH (y x i : SV) (h3 : MH) (C : MH → Prop) : Prop := match ownO h3 x with
  | some p => match setO p.2 i y with
    | some o => C (mput h3 p.1 o)
    | none => False
  | none => match fz1 y h3 with
    | some (d, h4) => match ownL h4 x, asInt i with
      | some (a, ds), some k => match ixN ds.length k with
        | some j => C (mput h4 a (.lst (ds.set j d)))
        | none => False
      | _, _ => False
    | none => False
theorem setKH_mono {y x i : SV} {h3 : MH} {C C' : MH → Prop} (k : ∀ h, C h → C' h) (w : setKH y x i h3 C) : setKH y x i h3 C' := by
  unfold setKH at w ⊢
  split at w
  · split at w
    · exact k _ w
    · exact w
  · split at w
    · split at w
      · split at w
        · exact k _ w
        · exact w
      · exact w
    · exact w
theorem setKH_ok {K : PySem.W.Frag} {Γ : GI} {H : Hp} {h : MH} {x i y : SV} {u v w : V} {Q : Hp → Prop} {C : MH → Prop} (rm : RM K Γ H h) (rx : RV K Γ H h x u) (ri : RV K Γ H h i v) (ry : RV K Γ H h y w) (q : setKH y x i h C)
    (k : ∀ H' h', PX Γ H h H' h' → RM K Γ H' h' → C h' → Q H') : rSetG u v w H Q := by
  unfold setKH at q
  split at q
  · rename_i p e0
    split at q
    · rename_i o' e1
      exact setO_ok rm rx ri ry e0 e1 fun H' px5 rm5 => k _ _ px5 rm5 q
    · exact q.elim
  · split at q
    · rename_i d h4 e1
      obtain ⟨p4, rm4, rd⟩ := fz1_ok ry rm e1
      split at q
      · rename_i a ds j0 e2 e3
        split at q
        · rename_i j e4
          obtain ⟨ex, ea⟩ := ownL_ok e2
          subst ex
          have ev : u = .ref a := rx
          subst ev
          obtain ⟨ws, f1, f2⟩ := rm4.ob a _ ea
          have px5 : PX Γ H h4 (upd H a (.lst (ws.set j w))) (mput h4 a (.lst (ds.set j d))) := put_px ea rm4
          exact .inl ⟨a, ws, j0, j, rfl, asInt_ok ri e3, f1, by rw [dps_len f2]; exact e4, k _ _ (p4.trans px5) (put_rm ea rm4 (dps_set j rd f2)) q⟩
        · exact q.elim
      · exact q.elim
    · exact q.elim
section
variable {X : Cx} {Γ : GI} {pos p1 p2 p3 p4 : Pos} {a b o1 i1 o2 i2 : Expr} {ta : DTA} {to1 ti1 to2 ti2 : DTE}
def dSwap (ta : DTA) (to1 ti1 to2 ti2 : DTE) : DTS := fun D σ h => ta σ h fun xs h1 => match xs with
  | [y1, y2] => to1 σ h1 fun x h2 => ti1 σ h2 fun i h3 => setKH y1 x i h3 fun h4 => to2 σ h4 fun x2 h5 => ti2 σ h5 fun i2 h6 => setKH y2 x2 i2 h6 fun h7 => D.nx σ h7
  | _ => False
theorem ds_swap (hc : X.calm = true) (hu : X.A.units + 1 < cLine) (ha : DA X Γ [a, b] ta) (h1 : DE X Γ o1 to1) (h2 : DE X Γ i1 ti1) (h3 : DE X Γ o2 to2) (h4 : DE X Γ i2 ti2) {k1 k2 : Nat}
    (ha1 : ∀ v, assign (.Subscript o1 i1 p3) X.env v = (do
      let ov ← holding [v] (eval o1 X.env)
      let iv ← holding [v, ov] (eval i1 X.env)
      standAt p3
      holding [v, ov, iv] (setItem ov iv v)
      release [v, ov, iv] []) := by intro _; rfl)
    (ha2 : ∀ v, assign (.Subscript o2 i2 p4) X.env v = (do
      let ov ← holding [v] (eval o2 X.env)
      let iv ← holding [v, ov] (eval i2 X.env)
      standAt p4
      holding [v, ov, iv] (setItem ov iv v)
      release [v, ov, iv] []) := by intro _; rfl)
    (hs : swapsWithSole [.Tuple [.Subscript o1 i1 p3, .Subscript o2 i2 p4] k1 p1] (.Tuple [a, b] k2 p2) pos.line X.env = pure false := by rfl) (hw : swappedStores [.Tuple [.Subscript o1 i1 p3, .Subscript o2 i2 p4] k1 p1] (.Tuple [a, b] k2 p2) X.env = pure none := by rfl)
    (hl : (assignEach [.Tuple [.Subscript o1 i1 p3, .Subscript o2 i2 p4] k1 p1] X.env).map (·.2) = [assign (.Tuple [.Subscript o1 i1 p3, .Subscript o2 i2 p4] k1 p1) X.env] := by rfl)
    (g1 : (assignEach [.Subscript o1 i1 p3, .Subscript o2 i2 p4] X.env).map (·.2) = assign (.Subscript o1 i1 p3) X.env :: (assignEach [.Subscript o2 i2 p4] X.env).map (·.2) := by rfl)
    (g2 : (assignEach [.Subscript o2 i2 p4] X.env).map (·.2) = assign (.Subscript o2 i2 p4) X.env :: (assignEach [] X.env).map (·.2) := by rfl)
    (hn : (assignEach [.Subscript o1 i1 p3, .Subscript o2 i2 p4] X.env).length = 2 := by rfl) (hst : (assignEach [.Subscript o1 i1 p3, .Subscript o2 i2 p4] X.env).findIdx? (·.1) = none := by rfl) :
    DS X Γ (.Assign [.Tuple [.Subscript o1 i1 p3, .Subscript o2 i2 p4] k1 p1] (.Tuple [a, b] k2 p2) pos) (dSwap ta to1 ti1 to2 ti2) :=
  ⟨fun D D' σ h l w => ha.mono _ _ _ _ (fun xs h1' w1 => by
    split at w1
    · exact h1.mono _ _ _ _ (fun x h2' w2 => h2.mono _ _ _ _ (fun i h3' w3 => setKH_mono (fun h4' w4 => h3.mono _ _ _ _ (fun x2 h5' w5 => h4.mono _ _ _ _ (fun i2 h6' w6 => setKH_mono (fun h7' w7 => l.nx _ _ w7) w6) w5) w4) w3) w2) w1
    · exact w1) w,
  ps_imp (ps_asg (pe_tup ha.pa) (pg_tup hc (pgs_cons (pg_sub h1.pe h2.pe (set_G hu) ha1) (pgs_cons (pg_sub h3.pe h4.pe (set_G hu) ha2) pgs_nil g2) g1) hn hst) hs hw hl) fun D σ H ⟨σd, h, rs, rm, w⟩ =>
    lift_mk ha.mono rs rm w fun xs h1' vs H1 px rs1 rvs rm1 w1 => by
      split at w1
      · rename_i y1 y2
        obtain ⟨v1, v2, rfl, r1, r2⟩ := rvs2d rvs
        refine ⟨by rw [sizeLine_eq]; show 2 ≤ 16777216; decide, fun p hp => ⟨p, [v1, v2], rfl, SqT.of upd_same, rfl, v1, [v2], rfl, ?_⟩⟩
        have pn : PX Γ H1 h1' (upd H1 p (.tup [v1, v2])) h1' := rm1.px hp
        have rmn := RM.new (o := .tup [v1, v2]) hp rm1
        refine lift_mk h1.mono (rs1.up pn) rmn w1 fun x h2' xv H2 px2 rs2 rx rm2 w2 => lift_mk h2.mono rs2 rm2 w2 fun i h3' iv H3 px3 rs3 ri rm3 w3 => ?_
        refine setKH_ok rm3 (rx.up px3) ri (((r1.up pn).up px2).up px3) w3 fun H4 h4' px4 rm4 w4 => ⟨v2, [], rfl, ?_⟩
        refine lift_mk h3.mono (rs3.up px4) rm4 w4 fun x2 h5' xv2 H5 px5 rs5 rx2 rm5 w5 => lift_mk h4.mono rs5 rm5 w5 fun i2 h6' iv2 H6 px6 rs6 ri2 rm6 w6 => ?_
        have pall := ((((pn.trans px2).trans px3).trans px4).trans px5).trans px6
        refine setKH_ok rm6 (rx2.up px6) ri2 (r2.up pall) w6 fun H7 h7' px7 rm7 w7 => ⟨rfl, ?_⟩
        exact w7 _ _ ((px.trans pall).trans px7) (rs6.up px7) rm7
      · exact w1.elim⟩
/-! steps -/
theorem e_swap {D : DEnds} {σ : DSt} {h : MH} (k : ta σ h fun xs h1 => match xs with
  | [y1, y2] => to1 σ h1 fun x h2 => ti1 σ h2 fun i h3 => setKH y1 x i h3 fun h4 => to2 σ h4 fun x2 h5 => ti2 σ h5 fun i2 h6 => setKH y2 x2 i2 h6 fun h7 => D.nx σ h7
  | _ => False) : dSwap ta to1 ti1 to2 ti2 D σ h := k
theorem k_setKH {a : Addr} {ds : List PyData} {d : PyData} {n : Int} {j : Nat} {h : MH} {C : MH → Prop} (e : h a = some (.lst ds)) (e2 : ixN ds.length n = some j) (k : C (mput h a (.lst (ds.set j d)))) : setKH (.d d) (.own a) (.d (.int n)) h C := by
  have q0 : ownO h (.own a) = none := by simp only [ownO, e]
  unfold setKH
  rw [q0]
  show (match ownL h (.own a), some n with
    | some (a, ds), some k => (match ixN ds.length k with
      | some j => C (mput h a (.lst (ds.set j d)))
      | none => False)
    | _, _ => False)
  have q : ownL h (.own a) = some (a, ds) := by simp only [ownL, e]
  rw [q]
  show (match ixN ds.length n with
      | some j => C (mput h a (.lst (ds.set j d)))
      | none => False)
  rw [e2]
  exact k
end
end DL

namespace DL
open PySem PySem.Spec PyProof.Rows L2
set_option autoImplicit true

/-! ## defs that are handed the caught exception, called in its suite -/
abbrev DSpE := Addr → DExc → MH → DK → Prop
def MonoE (W : DSpE) : Prop := ∀ a y h (Q Q' : DK), (∀ x h', Q x h' → Q' x h') → W a y h Q → W a y h Q'
def liftSpE (K : PySem.W.Frag) (T : List (Addr × Str)) (W : DSpE) (a : Addr) (y : DExc) (d : Option Addr) (H : Hp) (Q : VK) : Prop := ∃ (xs : List Addr) (h : MH), RX K (G0 xs T) H h y (.ref (He.ga K y.cls)) d ∧ RM K (G0 xs T) H h ∧
  W a y h fun r h' => ∀ v H', PXx xs H h H' h' → RV K (G0 xs T) H' h' r v → RM K (G0 xs T) H' h' → Q v H'
structure FnE (P : Program) (w : World) (K : PySem.W.Frag) (mg : Str → Option Value) (base : Heap) (T : List (Addr × Str)) (k : Nat) (f : Addr) (fd : FuncData) (p : Str) (W : DSpE) : Prop where
  mono : MonoE W
  run : ∀ (A : Around) (outer : List Env) (s : Shared) (H : Hp) (args : Args) (a : Addr) (oe : Obj) (y : DExc) (d : Option Addr) (Q : VK), L2H.RoomH k A → A.guards = some [] → Zc (.ref (He.ga K y.cls)) d oe → (∃ vs, oe.data = .fields vs) → L2H.PinOk outer H s (a, oe) →
    Env0 P w K mg base (A.mark (some (.ref a))) outer s H → BindsTo s fd args [(p, .ref a)] → liftSpE K T W a y d H Q → codeAny (model P w) (A.mark (some (.ref a))) (.call (.ref f) args) (CR (L2.CX P w) outer P w H s Q fun _ _ _ => False) s
theorem FnE.up {P : Program} {w : World} {K : PySem.W.Frag} {mg : Str → Option Value} {base : Heap} {T : List (Addr × Str)} {j k : Nat} {f : Addr} {fd : FuncData} {p : Str} {W : DSpE} (F : FnE P w K mg base T j f fd p W) (h : j ≤ k) : FnE P w K mg base T k f fd p W :=
  ⟨F.mono, fun A outer s H args a oe y d Q hr => F.run A outer s H args a oe y d Q (hr.mono h)⟩
def fnE (N : List Str) (t : Addr → DExc → DTS) : DSpE := fun a y h Q => ∃ D0 : DEnds, DEnds.Le D0 (dEnd h Q) ∧ t a y D0 (dstart N [.own a]) h
theorem fnE_mk {N : List Str} {t : Addr → DExc → DTS} {a : Addr} {y : DExc} {h : MH} {Q : DK} (ht : t a y (dEnd h Q) (dstart N [.own a]) h) : fnE N t a y h Q := ⟨_, le_refl, ht⟩
theorem fnE_mono {N : List Str} {t : Addr → DExc → DTS} : MonoE (fnE N t) := fun a y h Q Q' k ⟨D0, hD, ht⟩ =>
  ⟨D0, ⟨fun σ h' z => let ⟨h2, a, b⟩ := hD.nx σ h' z; ⟨h2, a, k _ _ b⟩, fun x h' z => let ⟨h2, a, b⟩ := hD.rt x h' z; ⟨h2, a, k _ _ b⟩, fun σ h' z => hD.bk σ h' z, fun σ h' z => hD.ct σ h' z⟩, ht⟩
section
variable {P : Program} {w : World} {K : PySem.W.Frag} {mg : Str → Option Value} {base : Heap}
/-- the context of such a def's body, the exception aside -/
abbrev cxE (P : Program) (w : World) (K : PySem.W.Frag) (mg : Str → Option Value) (base : Heap) (N : List Str) (qual : Str) (st : Stmt) (f : Addr) (cdv : Value) (A : Around) (outer : List Env) (s : Shared) (H : Hp) : Cx :=
  cxOf (L2.CX P w) P w K mg base N qual (defScope st) f cdv A outer s H fun _ _ _ => False
theorem fn_e {T : List (Addr × Str)} {x qual p : Str} {st : Stmt} {f : Addr} {fd : FuncData} {N : List Str} {k : Nat} {t : Addr → DExc → DTS} (F : Fun K x qual st f fd) (S : FnScope N [p] (defScope st))
    (body : ∀ (cdv : Value) (A : Around) (outer : List Env) (s : Shared) (H : Hp) (Γ : GI) (a_ : Addr) (oe_ : Obj) (y_ : DExc) (d_ : Option Addr), fd.code = cdv → Γ.T = T → L2H.RoomH k (A.deeper (envOfC qual (defScope st) s.heap.objs.size f cdv)) → A.guards = some [] →
      Zc (.ref (He.ga K y_.cls)) d_ oe_ → (∃ vs, oe_.data = .fields vs) → DSs ((cxE P w K mg base N qual st f cdv A outer s H).suite a_ [(a_, oe_)]) (Γ.exc K y_ (.ref (He.ga K y_.cls)) d_) (defBody st) (t a_ y_)) :
    FnE P w K mg base T (k + 1) f fd p (fnE N t) := by
  obtain ⟨oc, od, kV, doc, pm, an, cdv, ct, osl, rfl, lk, hcd⟩ := F.ex
  refine ⟨fnE_mono, ?_⟩
  rintro A outer s H args a oe y d Q room gd hz hf hpin env0 bind ⟨xs, h, rx, rm, D0, hD, hw⟩
  have keepB : ∀ b o, base.get? b = some o → s.heap.get? b = some o := fun b o z => (env0.bs b o z).1
  have inK : K.In s.heap := env0.mod.kin.keeps keepB
  have noLim : s.heap.NoLimit := env0.mod.nolimit.keeps keepB
  have kinds : ∀ y ∈ [p].zip [Value.ref a], (defScope st).names.lookup y.1 = some .local ∨ ((defScope st).names.lookup y.1 = some .cell ∧ ((cellsFrom (s.heap.objs.size + 1) (defScope st).names []).lookup y.1).isSome = true) := by
    rintro ⟨n, u⟩ hy
    exact (S.par n (List.of_mem_zip hy).1).imp id fun q => ⟨q, PySem.W.cellsFrom_some _ _ _ (.inl q)⟩
  refine codeAny_call_function room.depth (inK _ _ lk) rfl S.co S.gen rfl (PySem.W.codeRec_of inK hcd) (bind _ _ _ _ ?_)
  refine wpAny_newFunctionEnv_cells S.kind kinds fun env henv s1 made => ?_
  subst henv
  refine ⟨noLim.keeps made.toInCall.keep, codeAny_func ?_⟩
  have J := L2H.inv_startH (CX := L2.CX P w) (E := fun _ _ _ => False) (us := [.ref a]) (vs := [.ref a]) S hpin env0 rfl (.cons rfl .nil) made
  have I : Inv ((cxE P w K mg base N qual st f cdv A outer s H).suite a [(a, oe)]) [] (L2.start N [.ref a]) H s1 :=
    ⟨⟨J.ok.mod, J.ok.kind, J.ok.glob, J.ok.blt, J.ok.above, J.ok.inj, J.ok.has, J.ok.cab, (fun z => absurd (show false = true from z) Bool.false_ne_true), J.ok.frames, J.ok.stk, J.ok.exf, J.ok.bs, J.ok.bsz, J.ok.noex, J.ok.exfs, J.ok.funs, J.ok.frf⟩,
      J.os, J.bare, J.base, J.loc, J.cell, J.free, J.freeC, J.pin, J.hok, J.len⟩
  -- the deep reading
  let Γ : GI := ⟨xs, T, fun H' h' => PXx xs H h H' h', fun p q => q.trans p⟩
  have rxΓ : RX K (G0 Γ.x Γ.T) H h y (.ref (He.ga K y.cls)) d := rx
  have rmΓ : RM K (Γ.exc K y (.ref (He.ga K y.cls)) d) H h := ⟨rm.ob, ⟨PXx.refl, rxΓ⟩, rm.nx, rm.tb⟩
  have rsΓ : RSt K (Γ.exc K y (.ref (He.ga K y.cls)) d) H h (dstart N [.own a]) (L2.start N [.ref a]) := rst_start (Γ := Γ) (.cons rfl .nil)
  have der := body cdv A outer s H Γ a oe y d rfl rfl (room.deeper _) gd hz hf
  refine wpAny_mono (der.ps.run [] s1 (L2.start N [.ref a]) H { nx := fun _ H' => Q .non H', rt := Q } I ⟨dstart N [.own a], h, rsΓ, rmΓ, der.mono _ _ _ _ ?_ hw⟩) (fun fl s' hs => ?_) fun e s' hs => hs.elim
  · have out : ∀ (r : SV) (h' : MH) (v : V) (H' : Hp), (∃ h2, (∀ a o, h2 a = some o → h' a = some o) ∧ ∀ v H', PXx xs H h H' h2 → RV K (G0 xs T) H' h2 r v → RM K (G0 xs T) H' h2 → Q v H') → PX Γ H h H' h' → RV K Γ H' h' r v → RM K Γ H' h' → Q v H' := fun r h' v H' ⟨h2, hs2, z⟩ p rr rm' => by
      have dpx : PXx xs H' h' H' h2 := drop_px (Γ := Γ) (sub_none hs2)
      exact z v H' (PXx.trans p dpx) (RV.up (Γ := G0 xs T) dpx rr) (drop_rm (Γ := Γ) hs2 rm').g0
    exact ⟨fun σd h' z σ H' p _ r => out (.d .none) h' .non H' (hD.nx σd h' z) p rv_non r.unE, fun r h' z v H' p rr r' => out r h' v H' (hD.rt r h' z) p rr r'.unE, fun _ _ z => (hD.bk _ _ z).elim, fun _ _ z => (hD.ct _ _ z).elim⟩
  · have done : ∀ {σ' : L2.St} {H' : Hp} {v : V} {u : Value}, Inv ((cxE P w K mg base N qual st f cdv A outer s H).suite a [(a, oe)]) [] σ' H' s' → RelV v u → Q v H' → CE outer P w H s Q u s' :=
      fun {σ' H' v u} J r q => ⟨v, H', J.os, J.bare, J.base, J.hok, r, q⟩
    match fl, hs with
    | .ret u, ⟨v, σ', H', J, r, q⟩ => exact done J r q
    | .next, ⟨σ', H', J, q⟩ => exact done (v := V.non) (u := Value.none) J rfl q
    | .brk, ⟨_, _, _, q⟩ => exact q.elim
    | .cont, ⟨_, _, _, q⟩ => exact q.elim
end
def FnEC (P : Program) (w : World) (K : PySem.W.Frag) (mg : Str → Option Value) (base : Heap) (T : List (Addr × Str)) (k : Nat) (x : Str) (p : Str) (W : DSpE) : Prop :=
  ∃ f fd, FnE P w K mg base T k f fd p W ∧ PySem.W.keepIn K (.ref f) = true ∧ Binds K fd [p] [] ∧ mg x = some (.ref f)
theorem FnEC.up {P : Program} {w : World} {K : PySem.W.Frag} {mg : Str → Option Value} {base : Heap} {T : List (Addr × Str)} {j k : Nat} {x : Str} {p : Str} {W : DSpE} (F : FnEC P w K mg base T j x p W) (h : j ≤ k) : FnEC P w K mg base T k x p W := by
  obtain ⟨f, fd, a, b⟩ := F
  exact ⟨f, fd, a.up h, b⟩
theorem fn_ec {P : Program} {w : World} {K : PySem.W.Frag} {mg : Str → Option Value} {base : Heap} {T : List (Addr × Str)} {k : Nat} {x p : Str} {W : DSpE} {st : Stmt} {f : Addr} {fd : FuncData} (F : Fun K x x st f fd) (G : FnE P w K mg base T k f fd p W) (hm : mg x = some (.ref f))
    (hb : ∀ (kV doc pm : Value) (an : Option Addr) (cdv ct : Value) (us : List Value), us.length = [p].length → bindArgs (PySem.W.fnOf x x (defArgs st) (defBody st) (defScope st) .none kV doc pm an cdv ct) ⟨us, []⟩ = pure ([p].zip us)) : FnEC P w K mg base T k x p W :=
  ⟨f, fd, G, F.kp, F.binds hb, hm⟩
def dCallE (W : DSpE) (i : Nat) (a : Addr) (y : DExc) : DTE := fun σ h Q => slot σ i = some (.own a) ∧ W a y h Q
theorem e_callE {W : DSpE} {i : Nat} {a : Addr} {y : DExc} {σ : DSt} {h : MH} {Q : DK} (e : slot σ i = some (.own a)) (k : W a y h Q) : dCallE W i a y σ h Q := ⟨e, k⟩
theorem roomE {k : Nat} {A : Around} (r : Room k A) : L2H.RoomH k A := L2H.roomH_of r
theorem rE1 {k : Nat} {A : Around} (r : L2H.RoomH k A) : A.units + 1 < cLine := by
  have := r.un
  omega
theorem rE64 {k : Nat} {A : Around} (r : L2H.RoomH k A) : A.units + 64 < cLine := by
  have := r.un
  omega
theorem rE65 {k : Nat} {A : Around} (r : L2H.RoomH k A) : A.units + 65 < cLine := by
  have := r.un
  omega
section
variable {X : Cx} {Γ1 : GI} {a : Addr} {oe : Obj} {y : DExc} {d : Option Addr} {pn : List (Addr × Obj)} {x n pp : Str} {pos p p1 : Pos} {T : List (Addr × Str)} {k : Nat} {W : DSpE}
theorem de_fnE (i : Nat) (hΓ : Γ1.T = T) (F : FnEC X.prog X.w X.K X.mg X.base T k x pp W) (hr : L2H.RoomH k X.A) (hgd : X.A.guards = some []) (hz : Zc (.ref (He.ga X.K y.cls)) d oe) (hf : ∃ vs, oe.data = .fields vs) (hg : Gl (X.suite a ((a, oe) :: pn)) x := by rfl)
    (hN : X.N[i]? = some n := by rfl) (hv : Vis X.env.scope n := by first | exact Or.inl rfl | exact Or.inr (Or.inl rfl) | exact Or.inr (Or.inr rfl)) (hdb : (x == ("__debug__" : Str)) = false := by decide) (hd : (n == ("__debug__" : Str)) = false := by decide) (hcd : (n == ("__classdict__" : Str)) = false := by decide)
    (he : starEach [.Name n p1] X.env = (false, eval (.Name n p1) X.env) :: starEach [] X.env := by rfl) (hpl : (backTo pos (starEach [] X.env)).any (·.1) = false := by rfl) :
    DE (X.suite a ((a, oe) :: pn)) (Γ1.exc X.K y (.ref (He.ga X.K y.cls)) d) (.Call (.Name x p) [.Name n p1] [] pos) (dCallE W i a y) := by
  subst hΓ
  obtain ⟨f, fd, F, hk, hb, hm⟩ := F
  refine ⟨fun σ h Q Q' kq w => ⟨w.1, F.mono _ _ _ _ _ kq w.2⟩, ⟨fun pins s σ H Q I w => ?_⟩⟩
  obtain ⟨σd, h, rs, rm, w0, w⟩ := w
  refine wpAny_Call_Name_kw (ld_glob I hg hm ?_ hdb)
  have pa : PA (X.suite a ((a, oe) :: pn)) [.Name n p1] (tCons (tVar i) tNil) := pa_cons (pe_var (X := X.suite a ((a, oe) :: pn)) hN hv hd hcd) pa_nil he
  refine PySem.W.callWith_K (h₀ := X.base) I.ok.mod.kin hk (thn (pa.run pos pins s σ H (fun vs H1 => vs = [V.ref a] ∧ H1 = H) I ⟨.ref a, own_at rs w0, rfl, rfl⟩) ?_) he hpl
  rintro us s1 ⟨vs, H1, I1, r, rfl, rfl⟩
  refine ⟨I1.kIn, ?_⟩
  cases r with
  | cons ru rn =>
    rename_i u us'
    cases rn
    cases (show u = Value.ref a from ru)
    have bi := hb s1 [.ref a] I1.kIn rfl
    rw [List.append_nil] at bi
    have P1 := I1.pin (a, oe) (List.mem_append_left _ List.mem_cons_self)
    have hpin : L2H.PinOk X.stack H1 s1 (a, oe) := ⟨P1.1, P1.2.1, fun hm => (List.mem_cons.mp (I1.stkSub a hm)).elim P1.2.2.1 P1.2.2.2.1, P1.2.2.2.2⟩
    have hsp : liftSpE X.K Γ1.T W a y d H1 Q := ⟨Γ1.x, h, rm.g.2, rm.unE.g0, F.mono _ _ _ _ _ (fun z h' c v H' px rz rm' => c v H' px rz (rm.back px rm')) w⟩
    refine wpAny_call (codeAny_mono (F.run X.A X.stack s1 H1 ⟨[.ref a], []⟩ a oe y d Q hr hgd hz hf hpin I1.env0 bi hsp) fun res s' hq => ?_)
    match res, hq with
    | .error ex, hq => exact (takes0 (X := X.suite a ((a, oe) :: pn))) ex s' (XE.of_call I1 (fun _ _ _ z => z) hq)
    | .ok (.ret u), hq => exact I1.after hq
    | .ok .next, hq => exact False.elim hq
    | .ok .brk, hq => exact False.elim hq
    | .ok .cont, hq => exact False.elim hq
end
end DL

namespace DL
open PySem PySem.Spec PyProof.Rows L2
set_option autoImplicit true

/-! ## {k: v for x in ..}, keys ints or texts: the new dict is one's own from the start -/
def dcL (g : Tg) (tt : DTT) (tk tv : DTE) (σ : DSt) (p : Addr) : List PyData → MH → (MH → Prop) → Prop
  | [], h, Q => Q h
  | d :: r, h, Q => match bindT g (.d d) σ with
    | some σ1 => tt σ1 h fun b h1 => if b = true then tk σ1 h1 fun x h2 => tv σ1 h2 fun y h3 => match asKey x, asDc h3 (.own p) with
        | some k, some q => q.2.length < sizeLine ∧ dcL g tt tk tv σ p r (mput h3 p (.dct (putS q.2 k y))) Q
        | _, _ => False
      else dcL g tt tk tv σ p r h1 Q
    | none => False
def dDc (w : DTI) (g : Tg) (tt : DTT) (tk tv : DTE) (vs : List Nat) : DTE := fun σ h Q => w σ h fun ds h1 => ∀ p, h1 p = none → dcL g tt tk tv (wipeD σ vs) p ds (mput h1 p (.dct [])) fun h2 => Q (.own p) h2
theorem dcL_mono {g : Tg} {tt : DTT} {tk tv : DTE} {σ : DSt} {p : Addr} (mt : Mono tt) (mk : Mono tk) (mv : Mono tv) {Q Q' : MH → Prop} (k : ∀ h, Q h → Q' h) : ∀ ds h, dcL g tt tk tv σ p ds h Q → dcL g tt tk tv σ p ds h Q'
  | [], _, w => k _ w
  | d :: r, h, w => by
    unfold dcL at w ⊢
    split at w
    · refine mt _ _ _ _ (fun b h1 w1 => ?_) w
      cases b with
      | true =>
        refine mk _ _ _ _ (fun x h2 w2 => mv _ _ _ _ (fun y h3 w3 => ?_) w2) w1
        split at w3
        · exact ⟨w3.1, dcL_mono mt mk mv k _ _ w3.2⟩
        · exact w3
      | false => exact dcL_mono mt mk mv k _ _ w1
    · exact w
/-- a dict comprehension over what is walked -/
theorem dc_it {J : It} {n : Nat} {G : Hp → Prop} {Y : Nat → Hp → V → Hp → Prop} (w : Walk J n G Y) {g : TG} {tt : TT} {tk tv : TE} {vs : List Nat} {σ : L2.St} {H1 : Hp} {D : Addr} {Qd : Hp → Prop} (Pv : Nat → Hp → Prop) (h0 : Pv 0 (upd H1 D (.dK []))) (hG : ∀ i H, i ≤ n → Pv i H → G H)
    (hs : ∀ i x H H', i < n → Pv i H → Y i H x H' → g x (wipe σ vs) H' fun σ2 H2 => wipe σ2 vs = wipe σ vs ∧ tt σ2 H2 fun b H3 =>
      if b = true then tk σ2 H3 fun y H4 => tv σ2 H4 fun z H5 => ∃ kvs k, y = kV k ∧ H5 D = some (.dK kvs) ∧ kvs.length < sizeLine ∧ Pv (i + 1) (upd H5 D (.dK (putK kvs k z))) else Pv (i + 1) H3) (hd : ∀ H, Pv n H → Qd H) :
    ∃ W : Nat → Nat → Hp → Prop, (∃ m, W 0 m (upd H1 D (.dK []))) ∧ ∀ i m H, W i m H →
      (J.stop i H ∧ Qd H) ∨ (J.go i H ∧ ∃ Nx : Hp → Prop, (∀ H', Nx H' → ∃ m', m' < m ∧ W (i + 1) m' H') ∧ ∀ x H', J.yld i H x H' → g x (wipe σ vs) H' fun σ2 H2 => wipe σ2 vs = wipe σ vs ∧ tt σ2 H2 fun b H3 =>
        if b = true then tk σ2 H3 fun y H4 => tv σ2 H4 fun z H5 => ∃ kvs k, y = kV k ∧ H5 D = some (.dK kvs) ∧ kvs.length < sizeLine ∧ Nx (upd H5 D (.dK (putK kvs k z))) else Nx H3) := by
  refine ⟨fun i m H => i ≤ n ∧ Pv i H ∧ m + i = n, ⟨n, Nat.zero_le _, h0, rfl⟩, fun i m H ⟨hi, p, em⟩ => ?_⟩
  rcases Nat.lt_or_ge i n with hlt | hge
  · exact .inr ⟨w.goes i H hlt (hG i H hi p), Pv (i + 1), fun H' p' => ⟨m - 1, by omega, hlt, p', by omega⟩, fun x H' y => hs i x H H' hlt p (w.yields i H x H' hlt (hG i H hi p) y)⟩
  · obtain rfl : i = n := Nat.le_antisymm hi hge
    exact .inl ⟨w.stops H (hG i H hi p), hd H p⟩
theorem dc_data {K : PySem.W.Frag} {g : Tg} {tt : DTT} {tk tv : DTE} {vs : List Nat} (mt : Mono tt) (mk : Mono tk) (mv : Mono tv) (hix : (g.ix.all (fun i => vs.contains i) && !g.isStar) = true) {σ : L2.St} {H H1 : Hp} {σd : DSt} {h h1 : MH} {Q : VK} {ds : List PyData} {J : It} {D : Addr}
    (rs : RSt K Γ H h σd σ) (px : PX Γ H h H1 h1) (rm1 : RM K Γ H1 h1) (gv : Gives K (Fz Γ H1 h1) J ds) (hD : H1 D = none)
    (w1 : dcL g tt tk tv (wipeD σd vs) D ds (mput h1 D (.dct [])) fun h' => ∀ H', PX Γ H h H' h' → RM K Γ H' h' → Q (.ref D) H') :
    ∃ W : Nat → Nat → Hp → Prop, (∃ m, W 0 m (upd H1 D (.dK []))) ∧ ∀ i m H, W i m H →
      (J.stop i H ∧ Q (.ref D) H) ∨ (J.go i H ∧ ∃ Nx : Hp → Prop, (∀ H', Nx H' → ∃ m', m' < m ∧ W (i + 1) m' H') ∧ ∀ x H', J.yld i H x H' → rawT K g x (L2.wipe σ vs) H' fun σ2 H2 => L2.wipe σ2 vs = L2.wipe σ vs ∧ liftB K Γ tt σ2 H2 fun b H3 =>
        if b = true then liftV K Γ tk σ2 H3 fun y H4 => liftV K Γ tv σ2 H4 fun z H5 => ∃ kvs k, y = kV k ∧ H5 D = some (.dK kvs) ∧ kvs.length < sizeLine ∧ Nx (upd H5 D (.dK (putK kvs k z))) else Nx H3) := by
  have hsub : ∀ i, i ∈ g.ix → i ∈ vs := fun i hm => by simpa using List.all_eq_true.mp (Bool.and_eq_true_iff.mp hix).1 i hm
  have hns : g.isStar = false := by simpa using (Bool.and_eq_true_iff.mp hix).2
  obtain ⟨pD, rmD, hDn⟩ := own_newG (o := .dct []) (u := .dK []) hD rm1 (show Paired _ _ _ from .nil)
  refine dc_it gv (g := rawT K g) (tt := liftB K Γ tt) (tk := liftV K Γ tk) (tv := liftV K Γ tv) (vs := vs) (σ := σ) (H1 := H1) (D := D) (Qd := fun H => Q (.ref D) H)
    (fun i H' => ∃ h', PX Γ H1 h1 H' h' ∧ RSt K Γ H' h' (wipeD σd vs) (L2.wipe σ vs) ∧ RM K Γ H' h' ∧ dcL g tt tk tv (wipeD σd vs) D (ds.drop i) h' fun h' => ∀ H', PX Γ H h H' h' → RM K Γ H' h' → Q (.ref D) H')
    ⟨_, pD, ((rs.up px).up pD).wipe vs, rmD, by rw [List.drop_zero]; exact w1⟩ ?_ ?_ ?_
  · rintro i H' _ ⟨h', px', _, _, _⟩ a o e
    exact fz_sub a o (px'.ex a o e)
  · rintro i x H' H2 hi' ⟨h', px', rs', rm', w2⟩ ⟨_, d, e1, y⟩
    obtain ⟨p2, rm2, rv2⟩ := yd_in px'.ex rm' y
    have hdrop : ds.drop i = d :: ds.drop (i + 1) := by
      obtain ⟨hl, hz⟩ := List.getElem?_eq_some_iff.mp e1
      rw [List.drop_eq_getElem_cons hl, hz]
    rw [hdrop] at w2
    unfold dcL at w2
    split at w2
    · rename_i σ1 e2
      refine rawT_ok hns rv2 (rs'.up p2) e2 fun σr rsr hwp => ⟨by rw [hwp vs hsub, wipe_wipe], ?_⟩
      refine lift_mk mt rsr rm2 w2 fun b h3 k H3 px3 rs3 rb rm3 w3 => ?_
      subst rb
      have p3 := p2.trans px3
      cases b with
      | false => exact iteF ⟨h3, px'.trans p3, rs'.up p3, rm3, w3⟩
      | true =>
        refine iteT ?_
        refine lift_mk mk rs3 rm3 w3 fun xk h4 xv H4 px4 rs4 rx rm4 w4 => lift_mk mv rs4 rm4 w4 fun yk h5 yv H5 px5 rs5 ry rm5 w5 => ?_
        split at w5
        · rename_i k q f1 f2
          obtain ⟨g1, g2, kvs, g3, g4⟩ := dc_at rm5 (show RV K Γ H5 h5 (.own D) (.ref D) from rfl) f2
          have ea : D = q.1 := V.ref.inj g1
          rw [← ea] at g2 g3
          have p5 := (p3.trans px4).trans px5
          have px6 : PX Γ H5 h5 (upd H5 D (.dK (putK kvs k yv))) (mput h5 D (.dct (putS q.2 k yk))) := put_px g2 rm5
          exact ⟨kvs, k, asKey_ok (rx.up px5) f1, g3, by rw [← pairs_len g4]; exact w5.1, _, (px'.trans p5).trans px6, (rs'.up p5).up px6, put_rmG g2 rm5 (show Paired _ _ _ from putS_ok g4 (rv_rvf ry)), w5.2⟩
        · exact w5.elim
    · exact w2.elim
  · rintro H' ⟨h', px', rs', rm', w2⟩
    rw [List.drop_length] at w2
    exact w2 H' (px.trans px') rm'
theorem dc_ok {K : PySem.W.Frag} {w : DTI} {g : Tg} {tt : DTT} {tk tv : DTE} {vs : List Nat} (hw : Mono w) (mt : Mono tt) (mk : Mono tk) (mv : Mono tv) (hix : (g.ix.all (fun i => vs.contains i) && !g.isStar) = true) : ∀ σ H Q, liftV K Γ (dDc w g tt tk tv vs) σ H Q →
    tDc (liftI K Γ w) (rawT K g) (liftB K Γ tt) (liftV K Γ tk) (liftV K Γ tv) vs σ H Q := by
  rintro σ H Q ⟨σd, h, rs, rm, w0⟩
  refine ⟨σd, h, rs, rm, hw _ _ _ _ (fun ds h1 w1 J H1 px rm1 gv D hD => dc_data mt mk mv hix rs px rm1 gv hD ?_) w0⟩
  exact dcL_mono mt mk mv (fun h2 w2 H' px' rm' => w2 (.ref D) H' px' rfl rm') _ _ (w1 D (rm1.tracked hD))
section
variable {X : Cx} {tg : Expr} {pos : Pos}
theorem ps_setDc {i : Nat} {y : Str} {py : Pos} {kx vx iter : Expr} {ifs : List Expr} {scope : Scope} {own : List (Str × Nat)} {spos : Pos} {wi : TI} {g : TG} {tt : TT} {tk tv : TE} (hc : X.calm = true) (hN : X.N.Nodup) (hi : PI X tg iter wi) (ok : BlkOk X.N X.env.scope scope own)
    (hg : ∀ (s : Shared) (H : Hp) (C : Addr) (cl : List (Str × Addr)) (fp : List Addr), PG (X.blk s H scope (compEnvC scope cl C X.env) fp) tg g)
    (ht : ∀ (s : Shared) (H : Hp) (C : Addr) (cl : List (Str × Addr)) (fp : List Addr), PTs (X.blk s H scope (compEnvC scope cl C X.env) fp) ifs tt)
    (hk : ∀ (s : Shared) (H : Hp) (C : Addr) (cl : List (Str × Addr)) (fp : List Addr), PE (X.blk s H scope (compEnvC scope cl C X.env) fp) kx tk)
    (hv : ∀ (s : Shared) (H : Hp) (C : Addr) (cl : List (Str × Addr)) (fp : List Addr), PE (X.blk s H scope (compEnvC scope cl C X.env) fp) vx tv)
    (hy : X.N[i]? = some y) (hyl : X.env.scope.names.lookup y = some .local) (hsw : swapsWith (.DictComp kx vx [⟨tg, iter, ifs, 0⟩] scope pos) (some (.Name y py)) spos.line X.env = pure true) (hs : ∀ x, foldedSetIterable iter X.env x = pure x) :
    PS X (.Assign [.Name y py] (.DictComp kx vx [⟨tg, iter, ifs, 0⟩] scope pos) spos) (tAsg (tDc wi g tt tk tv (own.map (·.2))) (gName i)) := by
  constructor
  intro pins s σ H D I w
  rw [exec_Assign_Name_used _ _ _ _ hsw]
  refine wpAny_bind (wpAny_standAt (wpAny_bind (show wpAny _ X.A (do let _ ← comprehension (.DictComp kx vx [⟨tg, iter, ifs, 0⟩] scope pos) scope X.env (firstIterPos [⟨tg, iter, ifs, 0⟩] pos) newDict false (eval iter X.env) (some (assign (.Name y py) X.env))) _ _ s from ?_)))
  refine wpAny_bind (thn (dc_core (Qf := fun _ s' => SP X pins D .next s') hc hN I hi ok hg ht hk hv hs (show tDc wi g tt tk tv (own.map (·.2)) σ H (fun x H1 => gName i x σ H1 D.nx) from w) ?_) fun _ s' hq => wpAny_pure (wpAny_pure hq))
  intro L C s' m H' I' q hn ⟨f0, f1, f2, f3, f4, f5⟩
  refine (show wpAny _ _ (assign (.Name y py) X.env (.ref L)) _ _ _ from wpAny_assign_Name (store_ok2 (v := V.ref L) I' hN hy (.inl hyl) rfl ?_ (.inr hyl)))
  rintro s2 I2 ⟨a, sb, ha⟩
  have ne : C ≠ a := ha.elim (fun z => by rw [z]; exact f1) fun z e => f4 y a z e.symm
  exact ⟨m, hn.sameBut sb ne, fun h3 sb3 => ⟨_, H', I2.turned (t' := s2.toks) (fun b o hb e => (sb3.2 b hb).trans e) f0 f1 f3 f4 f5, q⟩⟩
theorem de_dc {kx vx iter : Expr} {ifs : List Expr} {scope : Scope} {own : List (Str × Nat)} {w : DTI} {g : Tg} {tt : DTT} {tk tv : DTE} (hc : X.calm = true) (hN : X.N.Nodup) (hi : DWk X Γ tg iter w) (ok : BlkOk X.N X.env.scope scope own)
    (hg : ∀ (s : Shared) (H : Hp) (C : Addr) (cl : List (Str × Addr)) (fp : List Addr), DG (X.blk s H scope (compEnvC scope cl C X.env) fp) tg g) (hix : (g.ix.all (fun i => (own.map (·.2)).contains i) && !g.isStar) = true)
    (ht : ∀ (Γ' : GI), Γ'.T = Γ.T → ∀ (s : Shared) (H : Hp) (C : Addr) (cl : List (Str × Addr)) (fp : List Addr), DTs (X.blk s H scope (compEnvC scope cl C X.env) fp) Γ' ifs tt)
    (hk : ∀ (Γ' : GI), Γ'.T = Γ.T → ∀ (s : Shared) (H : Hp) (C : Addr) (cl : List (Str × Addr)) (fp : List Addr), DE (X.blk s H scope (compEnvC scope cl C X.env) fp) Γ' kx tk)
    (hv : ∀ (Γ' : GI), Γ'.T = Γ.T → ∀ (s : Shared) (H : Hp) (C : Addr) (cl : List (Str × Addr)) (fp : List Addr), DE (X.blk s H scope (compEnvC scope cl C X.env) fp) Γ' vx tv) (hs : ∀ x, foldedSetIterable iter X.env x = pure x := by intro _; rfl) :
    DE X Γ (.DictComp kx vx [⟨tg, iter, ifs, 0⟩] scope pos) (dDc w g tt tk tv (own.map (·.2))) := by
  have mt : Mono tt := (ht Γ rfl ({} : Shared) (fun _ => none) 0 [] []).mono
  have mk : Mono tk := (hk Γ rfl ({} : Shared) (fun _ => none) 0 [] []).mono
  have mv : Mono tv := (hv Γ rfl ({} : Shared) (fun _ => none) 0 [] []).mono
  refine ⟨fun σ h Q Q' k w => hi.mono _ _ _ _ (fun ds h1 w1 p hp => dcL_mono mt mk mv (fun h2 => k _ _) _ _ (w1 p hp)) w, ?_⟩
  exact pe_imp (pe_dc (pos := pos) (wi := liftI X.K Γ w) (g := rawT X.K g) (tt := liftB X.K Γ tt) (tk := liftV X.K Γ tk) (tv := liftV X.K Γ tv) hc hN hi.pi ok (fun s H C cl fp => (hg s H C cl fp).pg) (fun s H C cl fp => (ht Γ rfl s H C cl fp).pts) (fun s H C cl fp => (hk Γ rfl s H C cl fp).pe) (fun s H C cl fp => (hv Γ rfl s H C cl fp).pe) hs) (dc_ok hi.mono mt mk mv hix)
theorem ds_dc (i : Nat) {y : Str} {py : Pos} {kx vx iter : Expr} {ifs : List Expr} {scope : Scope} {own : List (Str × Nat)} {spos : Pos} {w : DTI} {g : Tg} {tt : DTT} {tk tv : DTE} (hc : X.calm = true) (hN : X.N.Nodup) (hi : DWk X Γ tg iter w) (ok : BlkOk X.N X.env.scope scope own)
    (hg : ∀ (s : Shared) (H : Hp) (C : Addr) (cl : List (Str × Addr)) (fp : List Addr), DG (X.blk s H scope (compEnvC scope cl C X.env) fp) tg g) (hix : (g.ix.all (fun i => (own.map (·.2)).contains i) && !g.isStar) = true)
    (ht : ∀ (Γ' : GI), Γ'.T = Γ.T → ∀ (s : Shared) (H : Hp) (C : Addr) (cl : List (Str × Addr)) (fp : List Addr), DTs (X.blk s H scope (compEnvC scope cl C X.env) fp) Γ' ifs tt)
    (hk : ∀ (Γ' : GI), Γ'.T = Γ.T → ∀ (s : Shared) (H : Hp) (C : Addr) (cl : List (Str × Addr)) (fp : List Addr), DE (X.blk s H scope (compEnvC scope cl C X.env) fp) Γ' kx tk)
    (hv : ∀ (Γ' : GI), Γ'.T = Γ.T → ∀ (s : Shared) (H : Hp) (C : Addr) (cl : List (Str × Addr)) (fp : List Addr), DE (X.blk s H scope (compEnvC scope cl C X.env) fp) Γ' vx tv)
    (hy : X.N[i]? = some y := by rfl) (hyl : X.env.scope.names.lookup y = some .local := by rfl) (hsw : swapsWith (.DictComp kx vx [⟨tg, iter, ifs, 0⟩] scope pos) (some (.Name y py)) spos.line X.env = pure true := by rfl) (hs : ∀ x, foldedSetIterable iter X.env x = pure x := by intro _; rfl) :
    DS X Γ (.Assign [.Name y py] (.DictComp kx vx [⟨tg, iter, ifs, 0⟩] scope pos) spos) (dAsg (dDc w g tt tk tv (own.map (·.2))) (.nm i)) := by
  have m := (de_dc (pos := pos) hc hN hi ok hg hix ht hk hv hs).mono
  have mt : Mono tt := (ht Γ rfl ({} : Shared) (fun _ => none) 0 [] []).mono
  have mk : Mono tk := (hk Γ rfl ({} : Shared) (fun _ => none) 0 [] []).mono
  have mv : Mono tv := (hv Γ rfl ({} : Shared) (fun _ => none) 0 [] []).mono
  refine ⟨mono_asg m, ps_imp (ps_setDc (wi := liftI X.K Γ w) (g := rawT X.K g) (tt := liftB X.K Γ tt) (tk := liftV X.K Γ tk) (tv := liftV X.K Γ tv) hc hN hi.pi ok (fun s H C cl fp => (hg s H C cl fp).pg) (fun s H C cl fp => (ht Γ rfl s H C cl fp).pts) (fun s H C cl fp => (hk Γ rfl s H C cl fp).pe) (fun s H C cl fp => (hv Γ rfl s H C cl fp).pe) hy hyl hsw hs) fun D σ H q => ?_⟩
  exact dc_ok hi.mono mt mk mv hix _ _ _ (asg_lift (g := .nm i) m D σ H q)
end
/-! steps -/
section
variable {σ : DSt} {h : MH} {Q : DK} {p : Addr}
theorem e_dc {w : DTI} {g : Tg} {tt : DTT} {tk tv : DTE} {vs : List Nat} (k : w σ h fun ds h1 => ∀ p, h1 p = none → dcL g tt tk tv (wipeD σ vs) p ds (mput h1 p (.dct [])) fun h2 => Q (.own p) h2) : dDc w g tt tk tv vs σ h Q := k
theorem len_putS {κ : Type} [DecidableEq κ] (ps : List (κ × SV)) (k : κ) (v : SV) : (putS ps k v).length ≤ ps.length + 1 := by
  unfold putS
  split
  · rw [List.length_map]; omega
  · rw [List.length_append, List.length_singleton]; exact Nat.le_refl _
def keyS : Key → SV
  | .inl i => .d (.int i)
  | .inr x => .d (.str x)
theorem asKey_keyS (k : Key) : asKey (keyS k) = some k := by cases k <;> rfl
/-- keys and values are told without a change of the heap -/
theorem dc_pure {α : Type} {g : Tg} {tt : DTT} {tk tv : DTE} {QM : MH → Prop} (enc : α → PyData) (key : α → Key) (val : α → SV) : ∀ (l : List α) (h : MH) (acc : List (Key × SV)), h p = some (.dct acc) → acc.length + l.length < 1000000 →
    (∀ a ∈ l, ∃ σ1, bindT g (.d (enc a)) σ = some σ1 ∧ ∀ h, (∀ K : Bool → MH → Prop, K true h → tt σ1 h K) ∧ (∀ K : DK, K (keyS (key a)) h → tk σ1 h K) ∧ ∀ K : DK, K (val a) h → tv σ1 h K) →
    QM (mput h p (.dct (l.foldl (fun acc a => putS acc (key a) (val a)) acc))) → dcL g tt tk tv σ p (l.map enc) h QM
  | [], h, acc, ha, _, _, k => by
    rw [show mput h p (.dct ([].foldl (fun acc (a : α) => putS acc (key a) (val a)) acc)) = h from put_id ha] at k
    exact k
  | a :: l, h, acc, ha, hl, hp, k => by
    rw [List.length_cons] at hl
    have hl2 := len_putS acc (key a) (val a)
    obtain ⟨σ1, e, ht⟩ := hp a List.mem_cons_self
    rw [List.map_cons]
    unfold dcL
    rw [e]
    obtain ⟨t1, t2, t3⟩ := ht h
    refine t1 _ (t2 _ (t3 _ ?_))
    rw [asKey_keyS, asDc_own ha]
    refine ⟨by rw [sizeLine_eq]; show acc.length < _; omega, ?_⟩
    refine dc_pure enc key val l _ (putS acc (key a) (val a)) mput_same (by omega) (fun b hb => hp b (List.mem_cons_of_mem _ hb)) ?_
    rw [put_put]
    exact k
end
/-! tuple(range(n)) -/
def dTupRg1 (ta : DTE) : DTE := fun σ h Q => ta σ h fun x h1 => match asInt x with
  | some n => n ≤ 16777216 ∧ -16777216 ≤ n ∧ Q (.d (.tuple (rgD 0 n))) h1
  | none => False
section
variable {X : Cx} {a : Expr} {pos : Pos} {ta : DTE}
theorem de_tupRg1 {p p3 pos3 : Pos} (hc : X.calm = true) (hg : Gl X "tuple") (hm : X.mg "tuple" = none) (hg2 : Gl X "range") (hm2 : X.mg "range" = none) (ha : DE X Γ a ta)
    (na : starEach [a] X.env = (false, eval a X.env) :: starEach [] X.env := by rfl) (na2 : starEach [Expr.Call (.Name "range" p3) [a] [] pos3] X.env = (false, eval (Expr.Call (.Name "range" p3) [a] [] pos3) X.env) :: starEach [] X.env := by rfl) :
    DE X Γ (.Call (.Name "tuple" p) [.Call (.Name "range" p3) [a] [] pos3] [] pos) (dTupRg1 ta) :=
  ⟨fun σ h Q Q' k w => ha.mono _ _ _ _ (fun x h1 w1 => by
    split at w1
    · exact ⟨w1.1, w1.2.1, k _ _ w1.2.2⟩
    · exact w1) w, pe_imp (pe_tupRg hc hg hm (prg_1 hg2 hm2 ha.pe na) na2) fun σ H Q ⟨σd, h, rs, rm, w⟩ => lift_mk ha.mono rs rm w fun x h1 v H1 px rs1 rv rm1 w1 => by
      split at w1
      · rename_i n e1
        refine ⟨n, asInt_ok rv e1, rgOk_of (by omega) (by omega) w1.2.1 w1.1, fun q hq => ?_⟩
        obtain ⟨p1, r1, v1⟩ := new_tup hq rm1 (dps_rg 0 n)
        exact w1.2.2 _ _ (px.trans p1) v1 r1
      · exact w1.elim⟩
end
def tupRgK (Q : DK) : DK := fun x h1 => match asInt x with
  | some n => n ≤ 16777216 ∧ -16777216 ≤ n ∧ Q (.d (.tuple (rgD 0 n))) h1
  | none => False
theorem e_tupRg {ta : DTE} {σ : DSt} {h : MH} {Q : DK} (k : ta σ h (tupRgK Q)) : dTupRg1 ta σ h Q := k
theorem k_tupRg {n : Int} {h : MH} {Q : DK} (h1 : n ≤ 16777216) (h2 : -16777216 ≤ n) (k : Q (.d (.tuple (rgD 0 n))) h) : tupRgK Q (.d (.int n)) h := ⟨h1, h2, k⟩
end DL

namespace DL
open PySem PySem.Spec PyProof.Rows L2
set_option autoImplicit true

/-! ## sorted(set(a tuple of ints)) -/
def tSortSetQ (K : PySem.W.Frag) (ta : TE) : TE := fun σ H Q => ta σ H fun x H1 => ∃ (l : Addr) (ns : List Int), x = V.ref l ∧ SqT K H1 l (ns.map V.int) ∧ ns.length < 64 ∧
  ∀ (ms : List Int) (p : Addr), ms.Pairwise (· < ·) → (∀ k : Int, k ∈ ms ↔ k ∈ ns) → H1 p = none → Q (.ref p) (upd H1 p (.lst (ms.map V.int)))
section
variable {X : Cx} {a : Expr} {ta : TE}
theorem pe_sortSetQ {p p2 q pos : Pos} (hc : X.calm = true) (hg : Gl X "sorted") (hm : X.mg "sorted" = none) (hg2 : Gl X "set") (hm2 : X.mg "set" = none) (ha : PE X a ta)
    (na : starEach [a] X.env = (false, eval a X.env) :: starEach [] X.env := by rfl) : PE X (.Call (.Name "sorted" p) [.Call (.Name "set" p2) [a] [] q] [] pos) (tSortSetQ X.K ta) := by
  refine ⟨fun pins s σ H Q I h => ?_⟩
  refine Call_ (ld_blt I hg hm (by rfl) ?_)
  refine PyProof.Rows.callWith_builtin1 (PyProof.Rows.args_cons ?_ rfl) rfl rfl
  refine Call_ (ld_blt I hg2 hm2 PyProof.Rows.boot_set ?_)
  refine PyProof.Rows.callWith_type1 (PyProof.Rows.args_cons (thn (ha.run pins s σ H _ I h) fun v s1 ⟨x, H1, I1, r1, q1⟩ => PyProof.Rows.args_nil ?_) na) na rfl
  obtain ⟨l, ns, rfl, hq, h1, q1⟩ := q1
  cases r1
  obtain ⟨its, r, pl, hz⟩ := I1.tuple hq
  refine call_set_tupI ns (I1.ok.hd hc) (show s1.heap.IsTuple l its.toArray from pl) (by simpa using r.ints) (by unfold scanBound; omega) fun h' tk c hS hc' hk => ?_
  refine PyProof.Rows.args_nil ?_
  have I2 : Inv X pins σ H1 { s1 with heap := h', toks := tk } := I1.kept fun b o e => hk b o e
  have hS : SetR X.w ({ s1 with heap := h', toks := tk } : Shared).heap s1.heap.objs.size (fun j => decide (j ∈ ns)) c := hS
  generalize ({ s1 with heap := h', toks := tk } : Shared) = s2 at *
  refine sorted_set hS (I2.ok.hd hc) (by omega) fun s' p out c ms k g o hp hg hi hs hmm hl => ?_
  have hn : H1 p = none := I2.hok.fresh hp
  have hlen : (ms.map V.int).length ≤ sizeLine := by rw [List.length_map, hl, sizeLine_eq]; omega
  have J : Inv X pins σ (upd H1 p (.lst (ms.map V.int))) { s2 with heap := s'.heap, gens := s'.gens, drawn := s'.drawn, toks := s'.toks } :=
    I2.call (ch := []) (Un.laid k hp hn) (I2.hok.laid k hp ⟨hlen, out.toList, c, vals_of_ints hi, hg⟩) (by rw [g]; exact I2.bare) (fun _ z => nomatch z)
  have e : s' = { s2 with heap := s'.heap, gens := s'.gens, drawn := s'.drawn, toks := s'.toks } := by
    cases s'
    cases s2
    cases o
    rfl
  rw [e]
  exact ⟨.ref p, _, J, rfl, q1 ms p hs (fun k => (hmm k).trans (by simp)) hn⟩
def fSortSetQ (ta : DTE) : DTF := fun σ h Q => ta σ h fun x h1 => match x with
  | .d (.tuple ds) => ∃ ns : List Int, ds = ns.map PyData.int ∧ ns.length < 64 ∧ ∀ ms : List Int, ms.Pairwise (· < ·) → (∀ k : Int, k ∈ ms ↔ k ∈ ns) → Q (ms.map PyData.int) h1
  | _ => False
theorem df_sortSetQ {t : DTE} {p p2 q pos : Pos} (hc : X.calm = true) (hg : Gl X "sorted") (hm : X.mg "sorted" = none) (hg2 : Gl X "set") (hm2 : X.mg "set" = none) (ha : DE X Γ a t)
    (na : starEach [a] X.env = (false, eval a X.env) :: starEach [] X.env := by rfl) : DF X Γ (.Call (.Name "sorted" p) [.Call (.Name "set" p2) [a] [] q] [] pos) (fSortSetQ t) :=
  ⟨fun σ h Q Q' k w => ha.mono _ _ _ _ (fun x h1 w1 => by
    split at w1
    · obtain ⟨ns, e, hl, w2⟩ := w1
      exact ⟨ns, e, hl, fun ms a b => k _ _ (w2 ms a b)⟩
    · exact w1) w, pe_imp (pe_sortSetQ hc hg hm hg2 hm2 ha.pe na) fun σ H Q ⟨σd, h, rs, rm, w⟩ => lift_mk ha.mono rs rm w fun x h1 v H1 px rs1 rv rm1 w1 => by
      split at w1
      · rename_i ds
        obtain ⟨ns, e2, hl, w2⟩ := w1
        cases rv with
        | @tup b vs _ s1 d1 =>
          obtain ⟨ns', rfl, e3⟩ := ints_get d1 (fun d hd => by rw [e2] at hd; obtain ⟨i, _, rfl⟩ := List.mem_map.mp hd; exact ⟨i, rfl⟩)
          have e4 : ns' = ns := (List.map_inj_right (fun x y z => by cases z; rfl)).mp (e3.symm.trans e2)
          subst e4
          exact ⟨b, ns', rfl, sqT_up fz_sub s1, hl, fun ms p hs hm hq => w2 ms hs hm _ _ _ px (dps_ints ms) rm1 hq⟩
      · exact w1.elim⟩
end
def sortSetQK (QL : List PyData → MH → Prop) : DK := fun x h1 => match x with
  | .d (.tuple ds) => ∃ ns : List Int, ds = ns.map PyData.int ∧ ns.length < 64 ∧ ∀ ms : List Int, ms.Pairwise (· < ·) → (∀ k : Int, k ∈ ms ↔ k ∈ ns) → QL (ms.map PyData.int) h1
  | _ => False
theorem e_sortSetQ {ta : DTE} {σ : DSt} {h : MH} {QL : List PyData → MH → Prop} (k : ta σ h (sortSetQK QL)) : fSortSetQ ta σ h QL := k
theorem k_sortSetQ {ns : List Int} {ds : List PyData} {h : MH} {QL : List PyData → MH → Prop} (e : ds = ns.map PyData.int) (hl : ns.length < 64) (k : ∀ ms : List Int, ms.Pairwise (· < ·) → (∀ k : Int, k ∈ ms ↔ k ∈ ns) → QL (ms.map PyData.int) h) : sortSetQK QL (.d (.tuple ds)) h := ⟨ns, e, hl, k⟩
end DL

namespace DL
open PySem PySem.Spec PyProof.Rows L2
set_option autoImplicit true

/-! ## sorted by the third thing of tuples: a lambda -/
abbrev byE3 (x : Str) (p1 p2 p3 : Pos) (k1 : Nat) : Expr := .Subscript (.Name x p1) (.Constant (.int 2) k1 p2) p3
section
variable {prog : Program} {w : World} {A : Around} {s : Shared}
/-- v, a tuple whose third thing is the int r -/
def Hd3 (h : Heap) (v : Value) (r : Int) : Prop := ∃ a its, v = .ref a ∧ IsTup h a its ∧ ∃ u : Tok, its[2]? = some (.int r u)
theorem Hd3.keeps {h h' : Heap} {v : Value} {r : Int} (k : ∀ b o, h.get? b = some o → h'.get? b = some o) (x : Hd3 h v r) : Hd3 h' v r := by
  obtain ⟨a, its, e, ⟨o, g1, g2, n, g3⟩, y⟩ := x
  exact ⟨a, its, e, ⟨o, k _ _ g1, g2, n, g3⟩, y⟩
theorem by_call3 {f c' : Addr} {x qual : Str} {params : Arguments} {scope : Scope} {cl : List (Str × Addr)} {pm ctv v : Value} {r : Int} {p1 p2 p3 : Pos} {k1 : Nat}
    (hroom : A.depth < recursionLimit) (ho : s.heap.get? f = some (PySem.W.kla_obj "<lambda>" qual params (byE3 x p1 p2 p3 k1) scope cl pm c' ctv)) (hlim : s.heap.NoLimit) (hcd : s.heap.CodeRec (.ref c') qual)
    (hk : scope.kind = .function) (hco : scope.isCoroutine = false) (hgen : scope.isGenerator = false) (hc : ∀ y ∈ scope.names, y.2 ≠ .cell) (hx : scope.names.lookup x = some .local)
    (hbind : bindArgs (PySem.W.kla_fn "<lambda>" qual params (byE3 x p1 p2 p3 k1) scope cl pm (.ref c') ctv) ⟨[v], []⟩ = pure [(x, v)]) (hv : Hd3 s.heap v r) (hdb : (x == ("__debug__" : Str)) = false) :
    wpAny (model prog w) A (call (.ref f) [v]) (PySem.W.KeyPure (.int r) s) (fun _ _ => False) s := by
  refine wpAny_call (codeAny_mono (R := fun res s' => ∃ u, res = .ok (.ret u) ∧ PySem.W.KeyPure (.int r) s u s') ?_ ?_)
  · refine PySem.W.kla_callFunE hroom ho rfl hco hgen rfl hcd ?_
    rw [hbind]
    refine wpAny_pure (wpAny_newFunctionEnv hc (fun y hy => ?_) (fun h₁ hns hsb => ⟨hlim.fresh _ hsb, ?_⟩) hk)
    · obtain rfl : y = (x, v) := List.mem_singleton.mp hy
      exact hx
    · have kp : ∀ b o, s.heap.get? b = some o → h₁.get? b = some o := fun b o e => hsb.extBut b o (Nat.ne_of_lt (Heap.lt_size e)) (Heap.get?_push_of_some _ e)
      obtain ⟨a, its, rfl, it, u, e1⟩ := hv.keeps kp
      have lx : ([(x, Value.ref a)] : List (Str × Value)).reverse.lookup x = some (.ref a) := by simp
      refine PySem.W.kla_codeExpr ?_
      have sub : ∀ (g : Heap) (tk : Nat) (i : Int) (j : Nat) (y : Value) (q1 q2 q3 : Pos) (kk : Nat) (env : Env) (A' : Around) (Q : Value → Shared → Prop) (E : Value → Shared → Prop), g = h₁ → env.scope.kind = .function → env.kindOf x = some .local → env.locals = s.heap.objs.size →
          seqIndex? i its.size = some j → its[j]? = some y → -(2 ^ 63) ≤ i → i < 2 ^ 63 → (∀ tk', Q y { s with heap := h₁, toks := tk' }) → wpAny (model prog w) A' (eval (.Subscript (.Name x q1) (.Constant (.int i) kk q2) q3) env) Q E { s with heap := g, toks := tk } := by
        intro g tk i j y q1 q2 q3 kk env A' Q E eg ek ex el hj hy hi1 hi2 hq
        subst eg
        refine Subscript_ (wpAny_Name (wpAny_loadName_local ek ex (by rw [el]; exact hns) lx ?_) hdb)
        refine wpAny_Constant_int ?_
        exact subscriptTail_builtinR (x := y) it.typeIs slot_tuple_getitem.lookup (getItem_tuple (j := j) (Q := fun r s' => r = y ∧ Q r s') it hi1 hi2 hj hy ⟨rfl, hq _⟩) rfl
      have sz : 3 ≤ its.size := by
        have := (Array.getElem?_eq_some_iff.mp e1).1
        omega
      have j2 : seqIndex? 2 its.size = some 2 := by
        show (if (decide ((0 : Int) ≤ 2) && decide ((2 : Int) < (its.size : Int))) = true then some (2 : Int).toNat else none) = some 2
        rw [if_pos (by rw [Bool.and_eq_true]; exact ⟨rfl, decide_eq_true (by omega)⟩)]
        rfl
      refine sub h₁ _ 2 2 _ _ _ _ _ _ _ _ _ rfl hk hx rfl j2 e1 (by decide) (by decide) fun tk1 => ?_
      exact ⟨_, rfl, h₁, tk1, rfl, fun b o e => kp b o e, Reads.int r u⟩
  · rintro res s' ⟨u, rfl, h⟩
    exact h
end

/-! ## in a def -/
def thirdOf : PyData → Int
  | .tuple (_ :: _ :: .int r :: _) => r
  | _ => 0
def byOk3 (ds : List PyData) : Prop := ∀ d ∈ ds, ∃ y1 y2 r rest, d = .tuple (y1 :: y2 :: .int r :: rest)
def leBy3 (a b : PyData) : Bool := decide (thirdOf a ≤ thirdOf b)
theorem le3_eq : (PySem.W.dataLe false fun d : PyData => .int (thirdOf d)) = leBy3 := PySem.W.dataLe_int thirdOf
theorem sortable3 (ds : List PyData) : PySem.W.Sortable (ds.map fun d => PyData.int (thirdOf d)) := PySem.W.Sortable.others fun _ => ⟨fun z => (by cases z), fun _ z => (by cases z)⟩
def fBy3 (t : DTA) : DTF := fun σ h Q => t σ h fun xs h1 => match xs with
  | [x] => match asQ h1 x with
    | some ds => byOk3 ds ∧ Q (ds.mergeSort leBy3) h1
    | none => False
  | _ => False
theorem df_by3 {X : Cx} {k : Nat} {e : Expr} {t : DTA} {x : Str} {params : Arguments} {scope : Scope} {p pos lpos kpos p1 p2 p3 : Pos} {k1 : Nat} (hr : Room k X.A) (hg : Gl X "sorted") (hm : X.mg "sorted" = none) (ha : DA X Γ [e] t)
    {T : List (Addr × Str)} (hΓ : Γ.T = T) (hT : TabOf X.base X.mg T X.env.code X.env.qual) (hdef : defaultsOf params X.env = ([], []) := by rfl)
    (hbind : ∀ (q : Str) (pm cv ctv v : Value), bindArgs (PySem.W.kla_fn "<lambda>" q params (byE3 x p1 p2 p3 k1) scope [] pm cv ctv) ⟨[v], []⟩ = pure [(x, v)] := by intro _ _ _ _ _; rfl)
    (hk : scope.kind = .function := by rfl) (hco : scope.isCoroutine = false := by rfl) (hgen : scope.isGenerator = false := by rfl) (hnm : scope.names = [(x, .local)] := by rfl) (hdx : (x == ("__debug__" : Str)) = false := by decide)
    (he : backTo pos (starEach [e] X.env) = (false, eval e X.env) :: backTo pos (starEach [] X.env) := by rfl) (hpl : (backTo pos (starEach [e] X.env)).any (·.1) = false := by rfl)
    (hky : backToKw pos (keywordEach [⟨some "key", .Lambda params (byE3 x p1 p2 p3 k1) scope lpos, kpos⟩] X.env) = [(some ("key" : Str), do let v ← eval (.Lambda params (byE3 x p1 p2 p3 k1) scope lpos) X.env; standAt pos; pure v)] := by rfl) :
    DF X Γ (.Call (.Name "sorted" p) [e] [⟨some "key", .Lambda params (byE3 x p1 p2 p3 k1) scope lpos, kpos⟩] pos) (fBy3 t) := by
  subst hΓ
  refine ⟨fun σ h Q Q' k w => ha.mono _ _ _ _ (fun xs h1 w1 => by
    split at w1
    · split at w1
      · exact ⟨w1.1, k _ _ w1.2⟩
      · exact w1
    · exact w1) w, ⟨fun pins s σ H Q I w => ?_⟩⟩
  obtain ⟨σd, h, rs, rm, w⟩ := w
  refine wpAny_Call_Name_kw (ld_blt I hg hm (by rfl) ?_)
  refine PyProof.Rows.callWith_kw (thn (ha.pa.run pos pins s σ H (fun vs H1 => ∃ xs h1, PX Γ H h H1 h1 ∧ RVs X.K Γ H1 h1 xs vs ∧ RSt X.K Γ H1 h1 σd σ ∧ RM X.K Γ H1 h1 ∧ _) I
    (lift_mk ha.mono rs rm w fun xs h1 vs H1 px rs1 rvs rm1 w1 => ⟨xs, h1, px, rvs, rs1, rm1, w1⟩)) fun us s1 hq => ?_) he hpl (by rw [hky]; rfl) (by rw [hky]; rfl)
  obtain ⟨vs, H1, I1, r, xs, h1, px, rvs, rs1, rm1, w1⟩ := hq
  split at w1
  · rename_i y
    obtain ⟨v, rfl, rv⟩ := rvs1 rvs
    split at w1
    · rename_i ds e1
      obtain ⟨a, ws, rfl, s2, d2⟩ := asQ_ok rv rm1 e1
      rw [Vals.ref1 r, hky]
      obtain ⟨c, P, hcode, TB, hmT, hu⟩ := hT
      have hfree : ∀ y ∈ scope.names, y.2 = .free → ∃ c, X.env.cells.lookup y.1 = some c := fun y hy ef => by
        rw [hnm] at hy
        obtain rfl := List.mem_singleton.mp hy
        cases ef
      have hclo : cloFrom X.env.cells scope.names [] = [] := by
        rw [hnm]
        rfl
      refine wpAny_evalAll_cons (wpAny_bind (LamX.lam_make2 I1 TB hcode hmT hu rm1.tb hdef hfree fun f c' pm ctv H2 s2' I2 eN T2 hf hfn hfr hco' => wpAny_bind (wpAny_standAt (wpAny_pure ?_))))
      refine wpAny_evalAll_nil ?_
      show wpAny _ _ (call (.builtin "sorted") [.ref a] [((Str.ofString "key"), .ref f)]) _ _ _
      have px2 := extn_px (Γ := Γ) eN rm1
      have rm2 := extn_rm eN T2 rm1
      obtain ⟨its, rvi, hlt, hz⟩ : ∃ its : List Value, Vals ws its ∧ (PlainL s2'.heap a its.toArray ∨ IsTup s2'.heap a its.toArray) ∧ ws.length ≤ sizeLine := by
        rcases s2 with s2 | s2
        · obtain ⟨its, g1, g2, g3⟩ := I2.list (extn_sq eN s2)
          exact ⟨its, g1, .inl g2, g3⟩
        · obtain ⟨its, g1, g2, g3⟩ := I2.tuple (extn_sqT eN s2)
          exact ⟨its, g1, .inr g2, g3⟩
      have ds2 : DpAll X.K (Fz Γ H2 h1) ws ds := dps_up px2.ex _ _ d2
      have ec : PySem.W.EachIs (fun u d => ∃ v, RelV v u ∧ Dp X.K (Fz Γ H2 h1) v d) its ds := each_comp rvi (dps_each ds2)
      have lim := I2.nolimit
      obtain ⟨⟨oc, vc, tc, ho1, ho2, ho3⟩, _, _⟩ := I2.hok c' _ hco'
      have hd3 : ∀ u d, (∃ v, RelV v u ∧ Dp X.K (Fz Γ H2 h1) v d) → d ∈ ds → Hd3 s2'.heap u (thirdOf d) := by
        rintro u d ⟨v, g1, g2⟩ hm'
        obtain ⟨y1, y2, r, rest, rfl⟩ := w1.1 d hm'
        cases g2 with
        | tup hq hall =>
          obtain rfl : u = Value.ref _ := g1
          obtain ⟨ts, rt, it, _⟩ := I2.tuple (sqT_up fz_sub hq)
          cases hall with
          | cons q1 hall => cases hall with
            | cons q2 hall => cases hall with
              | cons q3 hall =>
                cases q3
                cases rt with
                | cons z1 rt => cases rt with
                  | cons z2 rt => cases rt with
                    | cons z3 rt =>
                      obtain ⟨t3, rfl⟩ := z3
                      exact ⟨_, _, rfl, it, t3, by simp [thirdOf]⟩
      have key_depth : ∀ d : PyData, (PyData.int (thirdOf d)).depth = 0 := fun d => by simp [PyData.depth]
      have un := hr.un
      have turn1 : ∀ (u : Value) (d : PyData), (∃ v, RelV v u ∧ Dp X.K (Fz Γ H2 h1) v d) → d ∈ ds → ∀ (g : Heap) (tk : Nat), (∀ b o, s2'.heap.get? b = some o → g.get? b = some o) →
          wpAny (model X.prog X.w) X.A.in1.in1 (call (.ref f) [u]) (PySem.W.KeyPure (.int (thirdOf d)) { s2' with heap := g, toks := tk }) (fun _ _ => False) { s2' with heap := g, toks := tk } := fun u d hR hm' g tk kp => by
        have hdep : X.A.in1.in1.depth < recursionLimit := by
          have := hr.dp
          show X.A.depth < _
          omega
        refine by_call3 (s := { s2' with heap := g, toks := tk }) hdep (by rw [← hclo]; exact kp _ _ hf) (lim.keeps kp) ⟨c', oc, vc, tc, rfl, kp _ _ ho1, ho2, ho3⟩ hk hco hgen (fun y hy => ?_) ?_ (hbind _ _ _ _ _) ((hd3 u d hR hm').keeps kp) hdx
        · rw [hnm] at hy
          obtain rfl := List.mem_singleton.mp hy
          intro z
          cases z
        · rw [hnm]
          simp
      have fin1 : ∀ (out : List Value) (c2 : Nat) (g : Heap) (tk : Nat) (p : Addr), (∀ b o, s2'.heap.get? b = some o → g.get? b = some o) → s2'.heap.get? p = none → g.get? p = some (PyProof.Rows.seqObj "list" (List.toArray out) c2) → PySem.W.EachIs (fun u d => ∃ v, RelV v u ∧ Dp X.K (Fz Γ H2 h1) v d) out (ds.mergeSort (PySem.W.dataLe false fun d : PyData => .int (thirdOf d))) →
          EP X pins σ Q (.ref p) { s2' with heap := g, toks := tk } := fun out c2 g tk p kp np hD eo => by
        rw [le3_eq] at eo
        obtain ⟨zs, v1, v2⟩ := each_split eo
        have hlen2 : zs.length ≤ sizeLine := by
          rw [v2.length, List.length_mergeSort, ← dps_len ds2]
          exact hz
        have hnone : H2 p = none := by
          cases q : H2 p with
          | none => rfl
          | some u =>
            obtain ⟨o, ho⟩ := obj_there (I2.hok p u q)
            rw [np] at ho
            cases ho
        exact ⟨.ref _, upd H2 p (.lst zs), I2.laidN (t' := tk) kp np hnone ⟨hlen2, out, c2, v1, hD⟩, rfl, w1.2 _ _ _ (px.trans px2) (each_dps v2) rm2 hnone⟩
      rcases hlt with hl | hl
      · exact PySem.W.sorted_key_data (b := false) (fun d : PyData => .int (thirdOf d)) hl.isList ec (PySem.W.AllAlike.of fun _ _ => by simp [PySem.W.alike, PySem.W.alikeAll]) (sortable3 _) (by rw [← dps_len ds2]; exact hz) (fun d _ => by rw [key_depth]; omega)
          (PyProof.Rows.ksk_s1 _ _) (fun _ => PyProof.Rows.ksk_l1 _ _) (fun _ => PyProof.Rows.ksk_t1 _ _) turn1 fun out c2 g tk kp hn2 hD hlen eo => fin1 out c2 g tk _ kp hn2 hD eo
      · exact sortedT_key (fun d : PyData => .int (thirdOf d)) hl ec (PySem.W.AllAlike.of fun _ _ => by simp [PySem.W.alike, PySem.W.alikeAll]) (sortable3 _) (by rw [← dps_len ds2]; exact hz) (fun d _ => by rw [key_depth]; omega)
          (PyProof.Rows.ksk_s1 _ _) (fun _ => PyProof.Rows.ksk_l1 _ _) (fun _ => PyProof.Rows.ksk_t1 _ _) turn1 fun out c2 g tk p kp np hD eo => fin1 out c2 g tk p kp np hD eo
    · exact w1.elim
  · exact w1.elim
def byK3 (QL : List PyData → MH → Prop) : List SV → MH → Prop := fun xs h1 => match xs with
  | [x] => match asQ h1 x with
    | some ds => byOk3 ds ∧ QL (ds.mergeSort leBy3) h1
    | none => False
  | _ => False
theorem e_by3 {tA : DTA} {σ : DSt} {h : MH} {QL : List PyData → MH → Prop} (k : tA σ h (byK3 QL)) : fBy3 tA σ h QL := k
theorem k_by3 {x : SV} {h : MH} {ds : List PyData} {QL : List PyData → MH → Prop} (e : asQ h x = some ds) (c : byOk3 ds) (k : QL (ds.mergeSort leBy3) h) : byK3 QL [x] h := by
  unfold byK3
  simp only [e]
  exact ⟨c, k⟩
end DL

namespace DL
open PySem PySem.Spec PyProof.Rows L2
set_option autoImplicit true

/-! ## sorted(a tuple of tuples) -/
section
variable {prog : Program} {w : World} {A : Around} {E : Value → Shared → Prop} {s : Shared}
theorem sortedT_ord {l : Addr} {m : Nat} {vs : List Value} {Q : Value → Shared → Prop} (tt : IsTup s.heap l vs.toArray) (hm : 1 ≤ m) (ok : HdsOk s.heap m vs) (big : vs.length ≤ sizeLine)
    (fin : ∀ (out : List Value) (c : Nat) (g : Heap) (tk : Nat) (p : Addr), (∀ b u, s.heap.get? b = some u → g.get? b = some u) → s.heap.get? p = none → g.get? p = some (seqObj "list" out.toArray c) → SrtO.Srtd (ltV s.heap m) out → SrtO.Stb (ltV s.heap m) out vs → Q (.ref p) { s with heap := g, toks := tk }) :
    wpAny (model prog w) A (call (.builtin "sorted") [.ref l]) Q E s := by
  obtain ⟨o, ho, hc, n, hd⟩ := id tt
  refine Calls.call_function_entry kind_sorted plain_sorted entry_sorted (args_sorted1 _) (show wpAny _ _ (Builtin.«sorted» _) _ _ _ from ?_)
  unfold Builtin.«sorted»
  refine wpAny_bind (m := checkCount "sorted" 1 1 _) (wpAny_pure ?_)
  refine wpAny_bind (wpAny_collect_seq l (.inr rfl) ho hc hd (fun h1 k1 => ?_) (by rw [List.size_toArray]; exact big))
  refine wpAny_bind (wpAny_newList ?_ (by simpa using big))
  have nn : s.heap.get? h1.objs.size = none := by
    cases q : s.heap.get? h1.objs.size with
    | none => rfl
    | some u => exact absurd (Heap.lt_size (k1 _ _ q)) (Nat.lt_irrefl _)
  have hoL : (h1.push { cls := .type "list", data := .seq vs.toArray.toList.toArray }).get? h1.objs.size = some (seqObj "list" vs.toArray 0) := by
    simpa using Heap.get?_push_size h1 (o := { cls := .type "list", data := .seq vs.toArray }) rfl
  have k2 : ∀ b u, s.heap.get? b = some u → (h1.push { cls := .type "list", data := .seq vs.toArray.toList.toArray }).get? b = some u := fun b u e => Heap.get?_push_of_some _ (k1 b u e)
  have sz : (h1.push { cls := .type "list", data := .seq vs.toArray.toList.toArray }).objs.size = h1.objs.size + 1 := Heap.size_push ..
  generalize h1.push { cls := .type "list", data := .seq vs.toArray.toList.toArray } = h2 at hoL k2 sz
  refine wpAny_bind (wpAny_holding (wpAny_call_entry slot_list_sort ⟨_, hoL, rfl⟩ entry_list_sort ?_ (args_list_sort _)))
  refine SrtO.list_sort_ord (ltV_swo s.heap m) hoL big (fun h3 => hds_sortable hm (by omega) ok fun b o e c => ⟨fun z => ?_, k2 _ _ e⟩) fun out a1 a2 => ⟨_, rfl, ?_⟩
  · rw [z, nn] at e
    cases e
  · obtain ⟨c, hc⟩ := sortedHeap_at (vs := vs) (out := out.toArray) hoL
    refine wpAny_pure ⟨_, rfl, fin out c _ _ h1.objs.size (fun b u e => ?_) nn hc a1 a2⟩
    have lt : b < h1.objs.size := Heap.lt_size (k1 b u e)
    rw [sortedHeap_old (Nat.ne_of_lt lt) (by rw [sz]; exact Nat.lt_succ_of_lt lt)]
    exact k2 b u e
end
def rSortTt (K : PySem.W.Frag) : List V → Hp → VK → Prop := fun vs H Q => ∃ (a : Addr) (xs : List V) (ds : List PyData) (m : Nat) (R : V → PyData → Prop), vs = [V.ref a] ∧ SqT K H a xs ∧ PySem.W.EachIs R xs ds ∧ (∀ v d, R v d → Dp K H v d) ∧ tupOk m ds ∧
  ∀ (out : List V) (p : Addr), PySem.W.EachIs R out (ds.mergeSort (leD m)) → H p = none → Q (.ref p) (upd H p (.lst out))
theorem cr_sortTt {X : Cx} : CallR X (.builtin "sorted") (rSortTt X.K) := by
  intro pins s σ H vs us Q I r h
  obtain ⟨a, xs, ds, m, R, rfl, hs, he, hR, ⟨hm, ok1, ok2⟩, q⟩ := h
  obtain ⟨its, rv, hl, hz⟩ := I.tuple hs
  rw [Vals.ref1 r]
  have ec := each_comp rv he
  -- each value by its place
  have hd : ∀ u d, (∃ v, RelV v u ∧ R v d) → ∀ (ns : List Int) (r : List PyData), d = .tuple (ns.map PyData.int ++ r) → ∃ rest xr, HdAt s.heap u ns rest ∧ Vals xr rest ∧ DpAll X.K H xr r := by
    rintro u d ⟨v, h1, h2⟩ ns r rfl
    have dp := hR _ _ h2
    cases dp with
    | tup hq ha =>
      obtain rfl : u = Value.ref _ := h1
      obtain ⟨ts, rt, ⟨o, ho, hc, n, hdt⟩, _⟩ := I.tuple hq
      obtain ⟨is, rest, xr, e, i, b1, b2⟩ := vals_app ha rt
      subst e
      exact ⟨rest, xr, ⟨_, o, n, is, rfl, ho, hc, hdt, i⟩, b1, b2⟩
  have hlen := ec.length
  have zat : ∀ v ∈ its, ∃ i : Nat, ∃ d, its[i]? = some v ∧ ds[i]? = some d ∧ ∃ x, RelV x v ∧ R x d := fun v hv => by
    obtain ⟨i, hi, e⟩ := List.getElem_of_mem hv
    have hi2 : i < ds.length := by omega
    have hz : (v, ds[i]) ∈ its.zip ds := List.mem_of_getElem? (i := i) (by rw [List.getElem?_zip_eq_some]; exact ⟨by rw [List.getElem?_eq_getElem hi, e], List.getElem?_eq_getElem hi2⟩)
    exact ⟨i, ds[i], by rw [List.getElem?_eq_getElem hi, e], List.getElem?_eq_getElem hi2, ec.zip _ hz⟩
  have ok : HdsOk s.heap m its := by
    refine ⟨fun v hv => ?_, fun v hv u hu ns r r' l h1 h2 => ?_⟩
    · obtain ⟨i, d, _, e2, x⟩ := zat v hv
      obtain ⟨ns, r, e, l⟩ := ok1 d (List.mem_of_getElem? e2)
      obtain ⟨rest, _, h1, _, _⟩ := hd v d x ns r e
      exact ⟨ns, rest, l, h1⟩
    · obtain ⟨i, d, a1, a2, x⟩ := zat v hv
      obtain ⟨j, e, b1, b2, y⟩ := zat u hu
      by_cases ij : i = j
      · subst ij
        rw [a1] at b1
        cases b1
        exact (h1.uniq h2 rfl).2
      · obtain ⟨ns1, r1, c1, c2⟩ := ok1 d (List.mem_of_getElem? a2)
        obtain ⟨ns2, r2, c3, c4⟩ := ok1 e (List.mem_of_getElem? b2)
        obtain ⟨t1, xr1, d1, d2, d3⟩ := hd v d x ns1 r1 c1
        obtain ⟨t2, xr2, d4, d5, d6⟩ := hd u e y ns2 r2 c3
        obtain ⟨f1, f2⟩ := d1.uniq h1 (c2.trans l.symm)
        obtain ⟨f3, f4⟩ := d4.uniq h2 (c4.trans l.symm)
        subst f1 f2 f3 f4
        have no : r1 = [] ∧ r2 = [] := by
          have hi : i < ds.length := (List.getElem?_eq_some_iff.mp a2).1
          have hj : j < ds.length := (List.getElem?_eq_some_iff.mp b2).1
          have ei : ds[i] = d := (List.getElem?_eq_some_iff.mp a2).2
          have ej : ds[j] = e := (List.getElem?_eq_some_iff.mp b2).2
          rcases Nat.lt_or_gt_of_ne ij with z | z
          · exact List.pairwise_iff_getElem.mp ok2 i j hi hj z _ r1 r2 l (ei.trans c1) (ej.trans c3)
          · exact (List.pairwise_iff_getElem.mp ok2 j i hj hi z _ r2 r1 l (ej.trans c3) (ei.trans c1)).symm
        obtain ⟨z1, z2⟩ := no
        subst z1 z2
        cases d3
        cases d6
        cases d2
        cases d5
        rfl
  refine sortedT_ord hl hm ok (by rw [← rv.length]; exact hz) fun out c g tk p kp np hD h1 h2 => ?_
  have eo := stb_sort h1 h2
  have each : PySem.W.EachIs (fun u d => ∃ v, RelV v u ∧ R v d) out (ds.mergeSort (leD m)) := by
    rw [eo]
    refine PySem.W.sort_each ec fun p hp q hq => ?_
    have key : ∀ p ∈ its.zip ds, hdKey s.heap m p.1 = keyD m p.2 := fun p hp => by
      obtain ⟨ns, r, e, l⟩ := ok1 p.2 (List.of_mem_zip hp).2
      obtain ⟨rest, _, g1, _, _⟩ := hd p.1 p.2 (ec.zip p hp) ns r e
      rw [hdKey_eq l g1, e, keyD_hd l]
    show leL (hdKey s.heap m p.1) (hdKey s.heap m q.1) = leL (keyD m p.2) (keyD m q.2)
    rw [key p hp, key q hq]
  obtain ⟨zs, v1, v2⟩ := each_split each
  have hnone : H p = none := by
    cases q : H p with
    | none => rfl
    | some u =>
      obtain ⟨o, ho⟩ := obj_there (I.hok p u q)
      rw [np] at ho
      cases ho
  have hlen2 : zs.length ≤ sizeLine := by
    rw [v2.length, List.length_mergeSort, ← he.length]
    exact hz
  exact ⟨.ref _, upd H p (.lst zs), I.laidN (t' := tk) kp np hnone ⟨hlen2, out, c, v1, hD⟩, rfl, q _ _ v2 hnone⟩

def rdSortedT : DRF := fun xs h Q => match xs with
  | [.d (.tuple ds)] => ∃ m, tupOk m ds ∧ Q (ds.mergeSort (leD m)) h
  | _ => False
theorem lf_sortTt {K : PySem.W.Frag} : LRF K Γ rdSortedT (rSortTt K) := by
  refine ⟨fun xs h Q Q' k w => ?_, fun xs vs H h C Q r rm w k => ?_⟩
  · unfold rdSortedT at w ⊢
    split at w
    · exact ⟨w.choose, w.choose_spec.1, k _ _ w.choose_spec.2⟩
    · exact w
  · unfold rdSortedT at w
    split at w
    · rename_i ds
      obtain ⟨v, rfl, rv⟩ := rvs1 r
      obtain ⟨m, w1, w2⟩ := w
      cases rv with
      | @tup a us _ s1 d1 =>
        refine ⟨a, us, ds, m, Dp K (Fz Γ H h), rfl, sqT_up fz_sub s1, dps_each d1, fun v d z => dp_up fz_sub _ _ z, w1, fun out p eo hp => ?_⟩
        exact k _ _ _ H p PX.refl (each_dps eo) rm w2 hp
    · exact w.elim
theorem b_sortTt {ds : List PyData} {h : MH} {QL : List PyData → MH → Prop} (m : Nat) (c : tupOk m ds) (k : QL (ds.mergeSort (leD m)) h) : rdSortedT [.d (.tuple ds)] h QL := ⟨m, c, k⟩
end DL

namespace DL
open PySem PySem.Spec PyProof.Rows L2
set_option autoImplicit true

/-! ## texts -/
def txD (z : Str) : List PyData := z.cps.toList.map fun c => PyData.str ⟨#[c]⟩
def rdLeTx : DR2 := fun x y h Q => match asStr x, asStr y with
  | some i, some j => Q (.d (.bool (!decide (j.cps.toList < i.cps.toList)))) h
  | _, _ => False
def rdInTx : DR2 := fun x y h Q => match asStr x, asStr y with
  | some i, some z => ∃ c, i = ⟨#[c]⟩ ∧ Q (.d (.bool (decide (c ∈ z.cps.toList)))) h
  | _, _ => False
section
variable {K : PySem.W.Frag}
theorem lr_leTx : LR2 K Γ rdLeTx (fun x y H Q => ∃ i j, x = .str i ∧ y = .str j ∧ Q (.bl (!decide (j.cps.toList < i.cps.toList))) H) := by
  refine ⟨fun x y h Q Q' k w => ?_, fun x y v u H h C' Q rv ru rm w k => ?_⟩
  · unfold rdLeTx at w ⊢
    split at w
    · exact k _ _ w
    · exact w
  · unfold rdLeTx at w
    split at w
    · rename_i i j e1 e2
      exact ⟨i, j, asStr_ok rv e1, asStr_ok ru e2, k _ _ _ H PX.refl rv_bl rm w⟩
    · exact w.elim
theorem lr_inTx : LR2 K Γ rdInTx (fun x y H Q => ∃ (c : Nat) (z : Str), x = .str ⟨#[c]⟩ ∧ y = .str z ∧ Q (.bl (decide (c ∈ z.cps.toList))) H) := by
  refine ⟨fun x y h Q Q' k w => ?_, fun x y v u H h C' Q rv ru rm w k => ?_⟩
  · unfold rdInTx at w ⊢
    split at w
    · obtain ⟨c, e, q⟩ := w
      exact ⟨c, e, k _ _ q⟩
    · exact w
  · unfold rdInTx at w
    split at w
    · rename_i i j e1 e2
      obtain ⟨c, e, q⟩ := w
      exact ⟨c, j, by rw [asStr_ok rv e1, e], asStr_ok ru e2, k _ _ _ H PX.refl rv_bl rm q⟩
    · exact w.elim
theorem gives_tx {F : Hp} {z : Str} : Gives K F (Its z) (txD z) := by
  unfold Gives
  have el : (txD z).length = z.cps.size := by unfold txD; rw [List.length_map, Array.length_toList]
  rw [el]
  have w0 := walk_str (z := z)
  refine ⟨fun i H hi _ => w0.goes i H hi trivial, fun H _ => w0.stops H trivial, fun i H x H' hi s y => ⟨s, ?_⟩⟩
  obtain ⟨e, c, e2, e3⟩ := w0.yields i H x H' hi trivial y
  refine ⟨.str ⟨#[c]⟩, ?_, .inl ⟨e, by rw [e3]; exact .str _⟩⟩
  unfold txD
  rw [List.getElem?_map, Array.getElem?_toList, e2]
  rfl
end
section
variable {X : Cx} {a b c e o : Expr} {pos p2 apos cpos : Pos} {ta tb tc te to : DTE} {tg : Expr}
/-- for sign in text -/
def wTx (te : DTE) : DTI := fun σ h Q => te σ h fun x h1 => match asStr x with
  | some z => Q (txD z) h1
  | none => False
theorem dw_tx (he : DE X Γ e te) : DWk X Γ tg e (wTx te) :=
  ⟨fun σ h Q Q' k w => he.mono _ _ _ _ (fun x h1 w1 => by
    split at w1
    · exact k _ _ w1
    · exact w1) w, pi_imp (pi_str he.pe) fun σ H R ⟨σd, h, rs, rm, w⟩ => lift_mk he.mono rs rm w fun x h1 v H1 px rs1 rv rm1 w1 => by
      split at w1
      · rename_i z e1
        exact ⟨z, asStr_ok rv e1, w1 _ _ px rm1 gives_tx⟩
      · exact w1.elim⟩
theorem strs_get {H : Hp} {K : PySem.W.Frag} : ∀ {vs : List V} {ys : List Str}, DpAll K H vs (ys.map PyData.str) → vs = ys.map V.str
  | [], [], _ => rfl
  | _, [], h => dps_nil h
  | [], _ :: _, h => nomatch h
  | v :: vs, y :: ys, h => by
    cases h with
    | cons a b =>
      cases a
      rw [strs_get b]
      rfl
/-- sep.join(a list of texts) -/
def dJoin (to te : DTE) : DTE := fun σ h Q => to σ h fun x h1 => match asStr x with
  | some a => te σ h1 fun y h2 => match asL h2 y with
    | some ds => ∃ ys : List Str, ds = ys.map PyData.str ∧ (ys.map (·.length)).sum + ys.length * a.length ≤ 16777216 ∧ Q (.d (.str (Txt.join a ys))) h2
    | none => False
  | none => False
theorem de_join (ho : DE X Γ o to) (he : DE X Γ e te) (hs : starEach [e] X.env = [(false, eval e X.env)] := by rfl) (hbase : attributeBase o "join" X.env (eval o X.env) = eval o X.env := by rfl) (hline : (apos.endLine == pos.line) = true := by rfl) :
    DE X Γ (.Call (.Attribute o "join" apos) [e] [] pos) (dJoin to te) :=
  ⟨fun σ h Q Q' k w => ho.mono _ _ _ _ (fun x h1 w1 => by
    split at w1
    · exact he.mono _ _ _ _ (fun y h2 w2 => by
        split at w2
        · obtain ⟨ys, f1, f2, f3⟩ := w2
          exact ⟨ys, f1, f2, k _ _ f3⟩
        · exact w2) w1
    · exact w1) w, pe_imp (pe_join ho.pe he.pe hs hbase hline) fun σ H Q ⟨σd, h, rs, rm, w⟩ => lift_mk ho.mono rs rm w fun x h1 v H1 px rs1 rv rm1 w1 => by
    split at w1
    · rename_i z e1
      refine ⟨⟨z, asStr_ok rv e1⟩, lift_mk he.mono rs1 rm1 w1 fun y h2 u H2 px2 rs2 ry rm2 w2 => ?_⟩
      split at w2
      · rename_i ds f1
        obtain ⟨ys, rfl, f2, f3⟩ := w2
        obtain ⟨p, vs, rfl, s1, d1⟩ := asL_ok ry rm2 f1
        have ev := strs_get d1
        subst ev
        exact ⟨z, p, ys, asStr_ok rv e1, rfl, .inl s1, f2, f3 _ _ (px.trans px2) rv_str rm2⟩
      · exact w2.elim
    · exact w1.elim⟩
/-- a text of the module -/
theorem de_gtx {x z : Str} (hg : Gl X x) (hm : ∃ t, X.mg x = some (.str z t)) (hd : (x == ("__debug__" : Str)) = false := by decide) : DE X Γ (.Name x pos) (dC (.str z)) := by
  obtain ⟨t, e⟩ := hm
  exact de_c (pe_glob hg e (v := .str z) ⟨t, rfl⟩ hd) fun _ => .str z
end

/-! ## text * int -/
def rMulTx : R2 := fun x y H Q => ∃ i n, x = .str i ∧ y = .int n ∧ MulOk i n ∧ Q (.str (Txt.mul i n)) H
theorem op_mulTx {X : Cx} : OpR X (binaryOp .Mult) rMulTx := by
  intro pins s σ H x y v u Q I rx ry h
  obtain ⟨i, j, rfl, rfl, ok, q⟩ := h
  obtain ⟨t, rfl⟩ := rx
  obtain ⟨t', rfl⟩ := ry
  exact PySem.SB.mul ok (fun t' tk => ⟨.str (Txt.mul i j), H, I.tok _, ⟨_, rfl⟩, q⟩)
def rdMulTx : DR2 := fun x y h Q => match asStr x, asInt y with
  | some i, some n => MulOk i n ∧ Q (.d (.str (Txt.mul i n))) h
  | _, _ => False
theorem lr_mulTx {K : PySem.W.Frag} : LR2 K Γ rdMulTx rMulTx := by
  refine ⟨fun x y h Q Q' k w => ?_, fun x y v u H h C' Q rv ru rm w k => ?_⟩
  · unfold rdMulTx at w ⊢
    split at w
    · exact ⟨w.1, k _ _ w.2⟩
    · exact w
  · unfold rdMulTx at w
    split at w
    · rename_i i j e1 e2
      exact ⟨i, j, asStr_ok rv e1, asInt_ok ru e2, w.1, k _ _ _ H PX.refl rv_str rm w.2⟩
    · exact w.elim

/-! ## steps -/
section
variable {x y : SV} {h : MH} {Q : DK} {σ : DSt} {te to : DTE}
theorem r_leTx {i j : Str} (k : Q (.d (.bool (!decide (j.cps.toList < i.cps.toList)))) h) : rdLeTx (.d (.str i)) (.d (.str j)) h Q := k
theorem r_inTx {c : Nat} {z : Str} (k : Q (.d (.bool (decide (c ∈ z.cps.toList)))) h) : rdInTx (.d (.str ⟨#[c]⟩)) (.d (.str z)) h Q := ⟨c, rfl, k⟩
theorem r_ixTx {z : Str} {n : Int} {c : Nat} (e : atI z.cps.toList n = some c) (l : z.length ≤ 16777216) (k : Q (.d (.str ⟨#[c]⟩)) h) : rdIx (.d (.str z)) (.d (.int n)) h Q := by
  show (match atI z.cps.toList n with
    | some c => z.length ≤ sizeLine ∧ Q (.d (.str ⟨#[c]⟩)) h
    | none => False)
  rw [e]
  exact ⟨by rw [sizeLine_eq]; exact l, k⟩
theorem r_addTx {i j : Str} (l : i.length + j.length ≤ 16777216) (k : Q (.d (.str (i ++ j))) h) : rdAdd (.d (.str i)) (.d (.str j)) h Q := ⟨by rw [sizeLine_eq]; exact l, k⟩
theorem r_mulTx {i : Str} {n : Int} (c : MulOk i n) (k : Q (.d (.str (Txt.mul i n))) h) : rdMulTx (.d (.str i)) (.d (.int n)) h Q := ⟨c, k⟩
theorem e_wTx {Q : List PyData → MH → Prop} (k : te σ h fun x h1 => match asStr x with
  | some z => Q (txD z) h1
  | none => False) : wTx te σ h Q := k
theorem e_join (k : to σ h fun x h1 => match asStr x with
  | some a => te σ h1 fun y h2 => match asL h2 y with
    | some ds => ∃ ys : List Str, ds = ys.map PyData.str ∧ (ys.map (·.length)).sum + ys.length * a.length ≤ 16777216 ∧ Q (.d (.str (Txt.join a ys))) h2
    | none => False
  | none => False) : dJoin to te σ h Q := k
end
end DL

namespace DL
open PySem PySem.Spec PyProof.Rows L2
set_option autoImplicit true

/-! ## str(int) -/
section
def rdStrI : DRA := fun xs h Q => match xs with
  | [x] => match asInt x with
    | some i => i.natAbs.log2 < 1920 ∧ Q (.d (.str (toString i))) h
    | none => False
  | _ => False
theorem la_strI {K : PySem.W.Frag} : LRA K Γ rdStrI (fun xs H Q => ∃ i, xs = [.int i] ∧ i.natAbs.log2 < 1920 ∧ Q (.str (toString i)) H) := by
  refine ⟨fun xs h Q Q' k w => ?_, fun xs vs H h C Q r rm w k => ?_⟩
  · unfold rdStrI at w ⊢
    split at w
    · split at w
      · exact ⟨w.1, k _ _ w.2⟩
      · exact w
    · exact w
  · unfold rdStrI at w
    split at w
    · obtain ⟨v, rfl, rv⟩ := rvs1 r
      split at w
      · rename_i i e1
        exact ⟨i, by rw [asInt_ok rv e1], w.1, k _ _ _ H PX.refl rv_str rm w.2⟩
      · exact w.elim
    · exact w.elim
end

/-! ## steps -/
section
variable {h : MH} {Q : DK}
theorem b_strI {i : Int} (c : i.natAbs.log2 < 1920) (k : Q (.d (.str (toString i))) h) : rdStrI [.d (.int i)] h Q := ⟨c, k⟩
end
end DL

namespace DL
open PySem PySem.Spec PyProof.Rows L2
set_option autoImplicit true

/-! ## one's own dicts with keys that are tuples of ints -/
def asQd (h : MH) : SV → Option (Addr × List (List Int × PyData))
  | .own p => match h p with
    | some (.dcT a ps) => if a = p then some (p, ps) else none
    | _ => none
  | _ => none
def lookQ (ps : List (List Int × PyData)) (k : List Int) : Option PyData := (ps.find? fun x => decide (x.1 = k)).map (·.2)
def setQd (ps : List (List Int × PyData)) (k : List Int) (d : PyData) : List (List Int × PyData) := if (lookQ ps k).isSome = true then ps.map (fun x => if x.1 = k then (x.1, d) else x) else ps ++ [(k, d)]
theorem asQd_ok {h : MH} {x : SV} {p : Addr × List (List Int × PyData)} (e : asQd h x = some p) : x = .own p.1 ∧ h p.1 = some (.dcT p.1 p.2) := by
  cases x with
  | d x => cases e
  | own a =>
    unfold asQd at e
    dsimp only at e
    cases q : h a with
    | none => rw [q] at e; cases e
    | some m =>
      rw [q] at e
      cases m with
      | dcT b ps =>
        dsimp only at e
        by_cases z : b = a
        · rw [if_pos z] at e; cases e; subst z; exact ⟨rfl, q⟩
        · rw [if_neg z] at e; cases e
      | _ => cases e
theorem asQd_own {h : MH} {a : Addr} {ps : List (List Int × PyData)} (e : h a = some (.dcT a ps)) : asQd h (.own a) = some (a, ps) := by
  unfold asQd
  dsimp only
  rw [e]
  exact if_pos rfl
section
variable {K : PySem.W.Frag} {H : Hp} {h : MH} {x : SV} {v : V}
theorem dq_at {p : Addr × List (List Int × PyData)} (rm : RM K Γ H h) (rv : RV K Γ H h x v) (e : asQd h x = some p) :
    v = .ref p.1 ∧ h p.1 = some (.dcT p.1 p.2) ∧ ∃ L, H p.1 = some (TD p.1 L) ∧ Paired (RQF K (Fz Γ H h)) p.2 L := by
  obtain ⟨ex, ea⟩ := asQd_ok e
  subst ex
  obtain ⟨u, f1, f2⟩ := ro_at (rm.ob _ _ ea)
  cases u <;> first | exact f2.elim | skip
  obtain ⟨L, e1, e2⟩ := f2
  subst e1
  exact ⟨rv, ea, L, f1, e2⟩
theorem rq_keys {F : Hp} {ps : List (List Int × PyData)} {L : List QRow} (s : Sub F H) (r : Paired (RQF K F) ps L) : ∀ p ∈ L, SqT K H p.2.1 (p.1.map V.int) := by
  induction r with
  | nil => exact fun p hp => nomatch hp
  | cons h t ih =>
    intro p hp
    rcases List.mem_cons.mp hp with e | hp
    · subst e; exact sqT_up s h.2.1
    · exact ih p hp
theorem rq_val {F : Hp} {ps : List (List Int × PyData)} {L : List QRow} (r : Paired (RQF K F) ps L) (k : List Int) : (valQ L k).isSome = (lookQ ps k).isSome ∧ ∀ d, lookQ ps k = some d → ∃ v, valQ L k = some v ∧ Dp K F v d := by
  unfold valQ lookQ
  induction r with
  | nil => exact ⟨rfl, fun d e => by cases e⟩
  | @cons p q ps qs h t ih =>
    rw [List.find?_cons, List.find?_cons, ← h.1]
    by_cases e : p.1 = k
    · rw [decide_eq_true e]
      exact ⟨rfl, fun d z => by cases z; exact ⟨_, rfl, h.2.2⟩⟩
    · rw [decide_eq_false e]
      exact ih
theorem rq_put {F : Hp} {ps : List (List Int × PyData)} {L : List QRow} (r : Paired (RQF K F) ps L) {k : List Int} {b : Addr} {v : V} {d : PyData} (hb : SqT K F b (k.map V.int)) (hv : Dp K F v d) : Paired (RQF K F) (setQd ps k d) (putQ L k b v) := by
  have e := (rq_val r k).1
  unfold setQd putQ
  rw [e]
  by_cases q : (lookQ ps k).isSome = true
  · rw [if_pos q, if_pos q]
    clear e q
    induction r with
    | nil => exact .nil
    | @cons p q ps qs h t ih =>
      rw [List.map_cons, List.map_cons]
      refine .cons ?_ ih
      rw [← h.1]
      by_cases e : p.1 = k
      · rw [if_pos e, if_pos e]
        exact ⟨rfl, h.1 ▸ h.2.1, hv⟩
      · rw [if_neg e, if_neg e]; exact ⟨h.1, h.2.1, h.2.2⟩
  · rw [if_neg q, if_neg q]
    exact Paired.snoc r ⟨rfl, hb, hv⟩
end
theorem paired_len {α β : Type} {R : α → β → Prop} : ∀ {l : List α} {m : List β}, Paired R l m → l.length = m.length
  | _, _, .nil => rfl
  | _, _, .cons _ t => congrArg (· + 1) (paired_len t)
theorem tupI_okF {K : PySem.W.Frag} {H : Hp} {h : MH} {x : SV} {v : V} {ns : List Int} (r : RV K Γ H h x v) (e : tupI x = some ns) : ∃ a, v = .ref a ∧ SqT K (Fz Γ H h) a (ns.map V.int) := by
  cases x with
  | own _ => cases e
  | d x =>
    cases x with
    | tuple ds =>
      have r' : Dp K (Fz Γ H h) v (.tuple ds) := r
      have e' : intsD ds = some ns := e
      cases r' with
      | @tup a vs _ s1 dd => exact ⟨a, rfl, by rw [← intsD_ok dd e']; exact s1⟩
    | _ => cases e
/-! in, not in -/
def rInQ (K : PySem.W.Frag) : R2 := fun x y H Q => ∃ (a b : Addr) (L : List QRow) (k : List Int), x = .ref b ∧ y = .ref a ∧ H a = some (TD a L) ∧ (∀ p ∈ L, SqT K H p.2.1 (p.1.map V.int)) ∧ SqT K H b (k.map V.int) ∧ Q (.bl (valQ L k).isSome) H
def rNotInQ (K : PySem.W.Frag) : R2 := fun x y H Q => ∃ (a b : Addr) (L : List QRow) (k : List Int), x = .ref b ∧ y = .ref a ∧ H a = some (TD a L) ∧ (∀ p ∈ L, SqT K H p.2.1 (p.1.map V.int)) ∧ SqT K H b (k.map V.int) ∧ Q (.bl (!(valQ L k).isSome)) H
section
variable {X : Cx}
theorem op_inQ (hu : X.A.units + 1 < cLine) : OpR X (compareOp .In) (rInQ X.K) := by
  intro pins s σ H x y v u Q I rx ry ⟨a, b, L, k, e1, e2, f1, f2, f3, q⟩
  subst e1 e2
  obtain rfl : v = Value.ref b := rx
  have eu1 : u = Value.ref a := ry
  subst eu1
  exact inQ hu I f1 f2 f3 fun s3 I3 => ⟨.bl _, H, I3, rfl, q⟩
theorem op_notInQ (hu : X.A.units + 1 < cLine) : OpR X (compareOp .NotIn) (rNotInQ X.K) := by
  intro pins s σ H x y v u Q I rx ry ⟨a, b, L, k, e1, e2, f1, f2, f3, q⟩
  subst e1 e2
  obtain rfl : v = Value.ref b := rx
  have eu1 : u = Value.ref a := ry
  subst eu1
  exact notInQ hu I f1 f2 f3 fun s3 I3 => ⟨.bl _, H, I3, rfl, q⟩
end
def rdInQ : DR2 := fun x y h Q => match tupI x, asQd h y with
  | some k, some p => Q (.d (.bool (lookQ p.2 k).isSome)) h
  | _, _ => False
def rdNotInQ : DR2 := fun x y h Q => match tupI x, asQd h y with
  | some k, some p => Q (.d (.bool (!(lookQ p.2 k).isSome))) h
  | _, _ => False
section
variable {K : PySem.W.Frag}
theorem lr_inQ : LR2 K Γ rdInQ (rInQ K) := by
  refine ⟨fun x y h Q Q' k w => ?_, fun x y v u H h C' Q rv ru rm w k => ?_⟩
  · unfold rdInQ at w ⊢
    split at w
    · exact k _ _ w
    · exact w
  · unfold rdInQ at w
    split at w
    · rename_i ks p e1 e2
      obtain ⟨b, eb, sb⟩ := tupI_ok rv e1
      obtain ⟨ev, _, L, f1, f2⟩ := dq_at rm ru e2
      exact ⟨p.1, b, L, ks, eb, ev, f1, rq_keys fz_sub f2, sb, by rw [(rq_val f2 ks).1]; exact k _ _ _ H PX.refl rv_bl rm w⟩
    · exact w.elim
theorem lr_notInQ : LR2 K Γ rdNotInQ (rNotInQ K) := by
  refine ⟨fun x y h Q Q' k w => ?_, fun x y v u H h C' Q rv ru rm w k => ?_⟩
  · unfold rdNotInQ at w ⊢
    split at w
    · exact k _ _ w
    · exact w
  · unfold rdNotInQ at w
    split at w
    · rename_i ks p e1 e2
      obtain ⟨b, eb, sb⟩ := tupI_ok rv e1
      obtain ⟨ev, _, L, f1, f2⟩ := dq_at rm ru e2
      exact ⟨p.1, b, L, ks, eb, ev, f1, rq_keys fz_sub f2, sb, by rw [(rq_val f2 ks).1]; exact k _ _ _ H PX.refl rv_bl rm w⟩
    · exact w.elim
end
/-! d.get(k), {} -/
def tGetQ (K : PySem.W.Frag) (td ty : TE) : TE := fun σ H Q => td σ H fun x H1 => ∃ (a : Addr) (L : List QRow), x = .ref a ∧ H1 a = some (TD a L) ∧ (∀ p ∈ L, SqT K H1 p.2.1 (p.1.map V.int)) ∧
  ty σ H1 fun y H2 => ∃ (b : Addr) (L2 : List QRow) (k : List Int), y = .ref b ∧ H2 a = some (TD a L2) ∧ (∀ p ∈ L2, SqT K H2 p.2.1 (p.1.map V.int)) ∧ SqT K H2 b (k.map V.int) ∧ Q ((valQ L2 k).getD .non) H2
section
variable {X : Cx} {o e : Expr} {apos cpos pos : Pos} {td ty : TE} {to ti : DTE}
theorem pe_getQ (hu : X.A.units + 1 < cLine) (ho : PE X o td) (he : PE X e ty) (m : M1 X o "get" apos e cpos) : PE X (.Call (.Attribute o "get" apos) [e] [] cpos) (tGetQ X.K td ty) := by
  refine ⟨fun pins s σ H Q I h => ?_⟩
  refine wpAny_Call_method m.base m.few m.line PySem.F.plainAttrs_dict PySem.F.slot_dict_get PySem.F.type_dict_get (thn (ho.run pins s σ H _ I h) fun u s1 ⟨x, H1, I1, rx, a, L, ex, ea, hk, q1⟩ => ?_)
  subst ex
  have eu1 : u = Value.ref a := rx
  subst eu1
  obtain ⟨_, hd, xs, _, dd⟩ := td_of I1 ea hk
  refine ⟨dd.typeIs, fun b q => ?_, ?_⟩
  · cases q
    obtain ⟨dob, _, _, g1, g2, _⟩ := dd
    exact ⟨dob, g1, g2.2.1⟩
  rw [m.trees]
  refine Calls.callWith_builtin rfl (Calls.evalArgs_plain (Calls.spliced_cons (thn (he.run pins s1 σ H1 _ I1 q1) fun iv s2 ⟨y, H2, I2, ry, b, L2, k, ey, ea2, hk2, hb, q2⟩ => Calls.spliced_nil ?_)))
  subst ey
  obtain rfl : iv = Value.ref b := ry
  exact getQ hu I2 ea2 hk2 hb fun w' s3 I3 rw' => ⟨_, H2, I3, rw', q2⟩
def dGetQ (to ti : DTE) : DTE := fun σ h Q => to σ h fun x h1 => match asQd h1 x with
  | some _ => ti σ h1 fun y h2 => match asQd h2 x, tupI y with
    | some p, some k => Q (.d ((lookQ p.2 k).getD .none)) h2
    | _, _ => False
  | none => False
theorem de_getQ (hu : X.A.units + 1 < cLine) (ho : DE X Γ o to) (he : DE X Γ e ti) (m : M1 X o "get" apos e cpos) : DE X Γ (.Call (.Attribute o "get" apos) [e] [] cpos) (dGetQ to ti) :=
  ⟨fun σ h Q Q' k w => ho.mono _ _ _ _ (fun x h1 w1 => by
    split at w1
    · exact he.mono _ _ _ _ (fun y h2 w2 => by
        split at w2
        · exact k _ _ w2
        · exact w2) w1
    · exact w1) w, pe_imp (pe_getQ hu ho.pe he.pe m) fun σ H Q ⟨σd, h, rs, rm, w⟩ => lift_mk ho.mono rs rm w fun x h1 v H1 px rs1 rv rm1 w1 => by
    split at w1
    · rename_i p e1
      obtain ⟨e2, e3, L, e4, e5⟩ := dq_at rm1 rv e1
      refine ⟨p.1, L, e2, e4, rq_keys fz_sub e5, lift_mk he.mono rs1 rm1 w1 fun y h2 u H2 px2 rs2 ry rm2 w2 => ?_⟩
      split at w2
      · rename_i p2 k f1 f2
        obtain ⟨g2, g3, L2, g4, g5⟩ := dq_at rm2 (rv.up px2) f1
        have ep : p2.1 = p.1 := V.ref.inj (g2.symm.trans e2)
        obtain ⟨b, eb, sb⟩ := tupI_ok ry f2
        refine ⟨b, L2, k, eb, by rw [← ep]; exact g4, rq_keys fz_sub g5, sb, ?_⟩
        obtain ⟨z1, z2⟩ := rq_val g5 k
        cases q : lookQ p2.2 k with
        | none =>
          rw [q] at z1 w2
          have z3 : valQ L2 k = none := by
            cases y : valQ L2 k with
            | none => rfl
            | some _ => rw [y] at z1; cases z1
          rw [z3]
          exact w2 _ _ (px.trans px2) rv_non rm2
        | some d =>
          obtain ⟨v2, z3, z4⟩ := z2 d q
          rw [q] at w2
          rw [z3]
          exact w2 _ _ (px.trans px2) z4 rm2
      · exact w2.elim
    · exact w1.elim⟩
def dNewQ : DTE := fun _ h Q => ∀ p, h p = none → Q (.own p) (mput h p (.dcT p []))
theorem de_newQ : DE X Γ (.Dict [] [] pos) dNewQ := ⟨fun _ _ _ _ k w p hp => k _ _ (w p hp), pe_imp pe_dnewQ fun σ H Q ⟨σd, h, rs, rm, w⟩ p hp => by
  obtain ⟨a, b, c⟩ := own_newG (o := .dcT p []) (u := TD p []) hp rm ⟨[], rfl, .nil⟩
  exact w p c _ _ a rfl b⟩
end

/-! d[k] = v -/
def sSetQ (K : PySem.W.Frag) (td ty tv : TE) : TS := fun D σ H => tv σ H fun v H1 => td σ H1 fun x H2 => ty σ H2 fun y H3 => ∃ (a b : Addr) (L : List QRow) (k : List Int), x = .ref a ∧ y = .ref b ∧ H3 a = some (TD a L) ∧
  (∀ p ∈ L, SqT K H3 p.2.1 (p.1.map V.int)) ∧ SqT K H3 b (k.map V.int) ∧ L.length < sizeLine ∧ D.nx σ (upd H3 a (TD a (putQ L k b v)))
section
variable {X : Cx} {o i value : Expr} {pos pos' : Pos} {td ty tv : TE} {to ti te : DTE}
theorem ps_setQ (hu : X.A.units + 1 < cLine) (ho : PE X o td) (hi : PE X i ty) (hv : PE X value tv) (hs : swapsWith value (some (.Subscript o i pos')) pos.line X.env = pure false) : PS X (.Assign [.Subscript o i pos'] value pos) (sSetQ X.K td ty tv) := by
  refine ⟨fun pins s σ H D I h => ?_⟩
  refine wpAny_Assign_Subscript (thn (hv.run pins s σ H _ I h) fun r s1 ⟨v, H1, I1, rv, q1⟩ => thn (ho.run pins s1 σ H1 _ I1 q1) fun u s2 ⟨x, H2, I2, rx, q2⟩ => thn (hi.run pins s2 σ H2 _ I2 q2) fun iv s3 ⟨y, H3, I3, ry, a, b, L, k, ex, ey, f1, f2, f3, f4, q3⟩ => ?_) hs
  subst ex ey
  have eu1 : u = Value.ref a := rx
  subst eu1
  obtain rfl : iv = Value.ref b := ry
  exact setQ hu I3 f1 f2 f3 rv f4 fun s4 I4 => ⟨σ, _, I4, q3⟩
def setQK (D : DEnds) (σ : DSt) (y x i : SV) (h : MH) : Prop := match asQd h x, tupI i, y with
  | some p, some k, .d d => p.2.length < sizeLine ∧ D.nx σ (mput h p.1 (.dcT p.1 (setQd p.2 k d)))
  | _, _, _ => False
def dSetQ (te to ti : DTE) : DTS := fun D σ h => te σ h fun y h1 => to σ h1 fun x h2 => ti σ h2 fun i h3 => setQK D σ y x i h3
theorem ds_setQ (hu : X.A.units + 1 < cLine) (he : DE X Γ value te) (ho : DE X Γ o to) (hi : DE X Γ i ti) (hs : swapsWith value (some (.Subscript o i pos')) pos.line X.env = pure false := by rfl) : DS X Γ (.Assign [.Subscript o i pos'] value pos) (dSetQ te to ti) :=
  ⟨fun D D' σ h l w => he.mono _ _ _ _ (fun y h1 w1 => ho.mono _ _ _ _ (fun x h2 w2 => hi.mono _ _ _ _ (fun k h3 w3 => by
    unfold setQK at w3 ⊢
    split at w3
    · exact ⟨w3.1, l.nx _ _ w3.2⟩
    · exact w3) w2) w1) w, ps_imp (ps_setQ hu ho.pe hi.pe he.pe hs) fun D σ H ⟨σd, h, rs, rm, w⟩ =>
    lift_mk he.mono rs rm w fun y h1 yv H1 px rs1 ry rm1 w1 => lift_mk ho.mono rs1 rm1 w1 fun x h2 xv H2 px2 rs2 rx rm2 w2 => lift_mk hi.mono rs2 rm2 w2 fun i h3 kv H3 px3 rs3 rk rm3 w3 => by
      unfold setQK at w3
      split at w3
      · rename_i p k d e1 e2
        obtain ⟨g2, g3, L, g4, g5⟩ := dq_at rm3 (rx.up px3) e1
        obtain ⟨b, eb, sb⟩ := tupI_okF rk e2
        have rd : Dp X.K (Fz Γ H3 h3) yv d := (ry.up px2).up px3
        have px5 : PX Γ H3 h3 (upd H3 p.1 (TD p.1 (putQ L k b yv))) (mput h3 p.1 (.dcT p.1 (setQd p.2 k d))) := put_px g3 rm3
        refine ⟨p.1, b, L, k, g2, eb, g4, rq_keys fz_sub g5, sqT_up fz_sub sb, ?_, ?_⟩
        · rw [← paired_len g5]; exact w3.1
        · exact w3.2 _ _ (((px.trans px2).trans px3).trans px5) (rs3.up px5) (put_rmG g3 rm3 ⟨_, rfl, rq_put g5 sb rd⟩)
      · exact w3.elim⟩
end

/-! ## steps -/
section
variable {h : MH} {Q : DK} {a : Addr} {ps : List (List Int × PyData)} {σ : DSt}
theorem r_inQ {x : SV} {k : List Int} (e : h a = some (.dcT a ps)) (e2 : tupI x = some k) (k' : Q (.d (.bool (lookQ ps k).isSome)) h) : rdInQ x (.own a) h Q := by
  unfold rdInQ
  rw [e2, asQd_own e]
  exact k'
theorem r_notInQ {x : SV} {k : List Int} (e : h a = some (.dcT a ps)) (e2 : tupI x = some k) (k' : Q (.d (.bool (!(lookQ ps k).isSome))) h) : rdNotInQ x (.own a) h Q := by
  unfold rdNotInQ
  rw [e2, asQd_own e]
  exact k'
end
end DL

namespace DL
open PySem PySem.Spec PyProof.Rows L2
set_option autoImplicit true

/-! ## {x: True for x in a tuple of tuples of ints}: a new own dict -/
def allQ (ks : List (Addr × List Int)) : List QRow := ks.foldl (fun L p => putQ L p.2 p.1 (.bl true)) []
theorem allQ_snoc {ks : List (Addr × List Int)} {p : Addr × List Int} : allQ (ks ++ [p]) = putQ (allQ ks) p.2 p.1 (.bl true) := by
  unfold allQ
  rw [List.foldl_append]
  rfl
theorem putQ_len {L : List QRow} {k : List Int} {b : Addr} {v : V} : (putQ L k b v).length ≤ L.length + 1 := by
  unfold putQ
  split
  · rw [List.length_map]; omega
  · rw [List.length_append]; exact Nat.le_refl _
theorem putQ_key {L : List QRow} {k : List Int} {b : Addr} {v : V} {x : QRow} (h : x ∈ putQ L k b v) : (x.1 = k ∧ x.2.1 = b) ∨ ∃ y ∈ L, x.1 = y.1 ∧ x.2.1 = y.2.1 := by
  unfold putQ at h
  split at h
  · obtain ⟨y, hy, e⟩ := List.mem_map.mp h
    refine .inr ⟨y, hy, ?_⟩
    subst e
    split <;> exact ⟨rfl, rfl⟩
  · rcases List.mem_append.mp h with h | h
    · exact .inr ⟨x, h, rfl, rfl⟩
    · obtain rfl := List.mem_singleton.mp h
      exact .inl ⟨rfl, rfl⟩
theorem foldQ_len : ∀ (ks : List (Addr × List Int)) (L : List QRow), (ks.foldl (fun L p => putQ L p.2 p.1 (.bl true)) L).length ≤ L.length + ks.length
  | [], L => Nat.le_refl _
  | p :: ks, L => by
    have h1 := foldQ_len ks (putQ L p.2 p.1 (.bl true))
    have h2 : (putQ L p.2 p.1 (.bl true)).length ≤ L.length + 1 := putQ_len
    show (ks.foldl _ (putQ L p.2 p.1 (.bl true))).length ≤ _
    rw [List.length_cons]
    omega
theorem allQ_len (ks : List (Addr × List Int)) : (allQ ks).length ≤ ks.length := by
  have h := foldQ_len ks []
  rw [List.length_nil, Nat.zero_add] at h
  exact h
theorem foldQ_key : ∀ (ks : List (Addr × List Int)) (L : List QRow) (x : QRow), x ∈ ks.foldl (fun L p => putQ L p.2 p.1 (.bl true)) L → (∃ p ∈ ks, x.1 = p.2 ∧ x.2.1 = p.1) ∨ ∃ y ∈ L, x.1 = y.1 ∧ x.2.1 = y.2.1
  | [], L, x, h => .inr ⟨x, h, rfl, rfl⟩
  | p :: ks, L, x, h => by
    rcases foldQ_key ks _ x h with ⟨q, hq, e⟩ | ⟨y, hy, e1, e2⟩
    · exact .inl ⟨q, List.mem_cons_of_mem _ hq, e⟩
    · rcases putQ_key hy with ⟨f1, f2⟩ | ⟨z, hz, f1, f2⟩
      · exact .inl ⟨p, List.mem_cons_self, e1.trans f1, e2.trans f2⟩
      · exact .inr ⟨z, hz, e1.trans f1, e2.trans f2⟩
theorem allQ_key {ks : List (Addr × List Int)} {x : QRow} (h : x ∈ allQ ks) : ∃ p ∈ ks, x.1 = p.2 ∧ x.2.1 = p.1 := by
  rcases foldQ_key ks [] x h with h | ⟨_, hy, _⟩
  · exact h
  · cases hy
def tDcQ (K : PySem.W.Frag) (ti : TE) : TE := fun σ H Q => ti σ H fun x H1 => ∃ (a : Addr) (ks : List (Addr × List Int)), x = .ref a ∧ SqT K H1 a (ks.map fun p => V.ref p.1) ∧ (∀ p ∈ ks, SqT K H1 p.1 (p.2.map V.int)) ∧ ks.length < sizeLine ∧
  ∀ D, H1 D = none → Q (.ref D) (upd H1 D (TD D (allQ ks)))
section
variable {X : Cx} {pins : List (Addr × Obj)}
theorem stays_fp {σ : L2.St} {H : Hp} {s : Shared} {h' : Heap} {t' : Nat} {b : Addr} (I : Inv X pins σ H s) (f : FpOk X pins H b) (k : ∀ c o, c ≠ b → s.heap.get? c = some o → h'.get? c = some o) : Inv X pins σ H { s with heap := h', toks := t' } := by
  obtain ⟨f0, f1, _, f3, f4, f5⟩ := f
  exact I.turned k f0 f1 f3 f4 f5
theorem fp_upd {H : Hp} {b D : Addr} {o : HO} (f : FpOk X pins H b) (ne : b ≠ D) : FpOk X pins (upd H D o) b := ⟨by rw [upd_ne ne]; exact f.1, f.2⟩
theorem dcq_core {s : Shared} {σ : L2.St} {H : Hp} {Q : VK} {y : Str} {kp tp vp : Pos} {kk : Nat} {iter : Expr} {scope : Scope} {pos pos' : Pos} {ti : TE} {use : Option (Value → Sem Unit)} {Qf : Value → Shared → Prop} (hu : X.A.units + 1 < cLine) (hc : X.calm = true)
    (hk : scope.kind = .function) (hn : ∀ z ∈ scope.names, z.2 = .local → scope.names.lookup z.1 = some .local) (hcf : ∀ z ∈ scope.names, z.2 ≠ .cell ∧ z.2 ≠ .free) (hy : scope.names.lookup y = some .local) (hdb : (y == ("__debug__" : Str)) = false) (hs : ∀ x, foldedSetIterable iter X.env x = pure x)
    (I : Inv X pins σ H s) (hi : PE X iter ti) (h : tDcQ X.K ti σ H Q)
    (fin : ∀ C D s' m H' cl, Inv X pins σ H' s' → Q (.ref D) H' → s'.heap.Ns C m → FpOk X pins H' C → compEnds (model X.prog X.w) X.A X.xe use Qf (.ref D) (compEnvC scope cl C X.env) (.ok .next) s') :
    wpAny (model X.prog X.w) X.A (comprehension (.DictComp (.Name y kp) (.Constant (.bool true) kk vp) [⟨.Name y tp, iter, [], 0⟩] scope pos) scope X.env pos' newDict false (eval iter X.env) use) Qf X.xe s := by
  refine comprehension_at (use := use) rfl hs (closure_ok fun z hz e => absurd e (hcf z hz).2) hk hn ?_
  refine thn (hi.run pins s σ H _ I h) fun xv s1 ⟨x, H1, I1, rx, a, ks, ex, st, sk, hl, q⟩ => ?_
  subst ex
  have exv : xv = Value.ref a := rx
  subst exv
  obtain ⟨its, rv, pl, hz⟩ := I1.tuple st
  have ei : its = ks.map fun p => Value.ref p.1 := refs_of_vals rv
  have hlen : its.toArray.size = ks.length := by rw [ei, List.size_toArray, List.length_map]
  have pl2 : s1.heap.IsTuple a its.toArray := pl
  have hat : a < s1.heap.objs.size := by obtain ⟨o, e, _⟩ := pl2; exact Heap.lt_size e
  have nIt : H1 s1.heap.objs.size = none := I1.hok.fresh (Nat.le_refl _)
  refine wpAny_pyIter_tuple pl2 (compBlock_dict (fun z hz => (hcf z hz).1) hk ?_)
  have W := Goes.tuple (prog := X.prog) (w := X.w) (A := X.A) (target := Expr.Name y tp) (I1.ok.hd hc) s1.heap.objs.size a (Nat.ne_of_lt hat) its.toArray
  refine ⟨_, _, _, _, _, _, rfl, W, ⟨⟨_, Heap.get?_push_size _ rfl, rfl, rfl⟩, pl2.push _⟩, fun D C s3 cb hD => ?_⟩
  obtain ⟨⟨h3, t3, e3⟩, old, nD, nC, ne, ns⟩ := cb
  subst e3
  dsimp only at old nD nC
  rw [Heap.size_push] at nD nC
  have lD : s1.heap.objs.size < D := nD
  have lC : s1.heap.objs.size < C := nC
  have hDn : H1 D = none := I1.hok.fresh (Nat.le_of_lt lD)
  have hCn : H1 C = none := I1.hok.fresh (Nat.le_of_lt lC)
  have fI : FpOk X pins H1 s1.heap.objs.size := I1.fpOk (Nat.le_refl _) nIt
  have fC : FpOk X pins H1 C := I1.fpOk (Nat.le_of_lt lC) hCn
  have hsys : (D == sysModules) = false := beq_eq_false_iff_ne.mpr (Nat.ne_of_gt (Nat.lt_trans I1.big lD))
  have I3 : Inv X pins σ (upd H1 D (TD D (allQ []))) { s1 with heap := h3, toks := t3 } := by
    refine I1.laid (fun b u e => old b u (Heap.get?_push_of_some _ e)) (Nat.le_of_lt lD) ?_
    exact td_new (Nat.zero_le _) hsys .nil List.nodup_nil ⟨_, #[], _, hD, ⟨rfl, rfl, rfl⟩, rfl, rfl⟩
  refine ⟨fun i s' => ∃ m, Inv X pins σ (upd H1 D (TD D (allQ (ks.take i)))) s' ∧ s'.heap.Ns C m, ⟨_, I3, ns⟩, ?_, ?_, ?_⟩
  · rintro i s5 h' tk ⟨m, J, n5⟩ k _
    have k2 : ∀ c o, c ≠ s1.heap.objs.size → s5.heap.get? c = some o → h'.get? c = some o := fun c o hc' e => k c o (fun z => hc' (List.mem_singleton.mp z)) e
    refine ⟨m, stays_fp J (fp_upd fI (Nat.ne_of_lt lD)) k2, ?_⟩
    obtain ⟨o, es, ep, ho, r⟩ := n5
    exact ⟨o, es, ep, k2 _ o (Nat.ne_of_gt lC) ho, r⟩
  · rintro i v s5 hi5 yv st5 ⟨m, J, n5⟩
    rw [hlen] at hi5
    have ep : its.toArray[i]? = some (.ref (ks[i]'hi5).1) := by
      rw [List.getElem?_toArray, ei, List.getElem?_map, List.getElem?_eq_getElem hi5]
      rfl
    have ev : v = .ref (ks[i]'hi5).1 := Option.some.inj (yv.symm.trans ep)
    subst ev
    generalize ep0 : ks[i]'hi5 = p
    have hp : p ∈ ks := ep0 ▸ List.getElem_mem hi5
    have htk : ks.take (i + 1) = ks.take i ++ [p] := by rw [← ep0, List.take_succ_eq_append_getElem hi5]
    have hloc : (compEnvC scope (cloFrom X.env.cells scope.names []) C X.env).kindOf y = some .local := lookup_relabel_local hy
    refine wpAny_assign_Name (wpAny_storeName_local hloc n5 (fun h6 n6 sb6 => ?_) (by simp [compEnvC, relabel, hk]))
    have J6 : Inv X pins σ (upd H1 D (TD D (allQ (ks.take i)))) { s5 with heap := h6, toks := s5.toks + 1 } := stays_fp J (fp_upd fC (Ne.symm ne)) fun c o hc' e => (sb6.2 c hc').trans e
    refine wpAny_pure ?_
    rw [if_pos rfl]
    refine wpAny_Name (wpAny_loadName_local (by simp [compEnvC, relabel, hk]) hloc n6 (if_pos rfl) ?_) hdb
    refine wpAny_Constant_bool ?_
    have up : ∀ {b : Addr} {xs : List V}, SqT X.K H1 b xs → SqT X.K (upd H1 D (TD D (allQ (ks.take i)))) b xs := fun {b xs} z => sqT_up (fun c o e => by rw [upd_ne (fun w => by rw [w, hDn] at e; cases e)]; exact e) z
    have hkeys : ∀ x ∈ allQ (ks.take i), SqT X.K (upd H1 D (TD D (allQ (ks.take i)))) x.2.1 (x.1.map V.int) := fun x hx => by
      obtain ⟨r, hr, e1, e2⟩ := allQ_key hx
      rw [e1, e2]
      exact up (sk r (List.mem_of_mem_take hr))
    obtain ⟨z, hd, xs, rel, dd⟩ := td_of J6 upd_same hkeys
    have hz2 : xs.length ≤ sizeLine := by rw [← Paired.length rel]; exact z
    refine wpAny_dictSet_heap (knd := tupleKind (intKind X.prog X.w)) (k := p.2) (hsz := hz2) (show X.A.units < cLine by omega) (J6.isT (up (sk p hp))) dd fun h7 dd7 sb7 => ?_
    obtain ⟨qo, es, ep7, hq, g2, g3, g4, _, g5⟩ := dd7
    have hl7 : (putQ (allQ (ks.take i)) p.2 p.1 (.bl true)).length ≤ sizeLine := by
      have h1 : (putQ (allQ (ks.take i)) p.2 p.1 (.bl true)).length ≤ (allQ (ks.take i)).length + 1 := putQ_len
      have h2 := allQ_len (ks.take i)
      rw [List.length_take] at h2
      omega
    have J7 := d_write (t' := s5.toks + 1 + (tupleKind (intKind X.prog X.w)).draws p.2) J6 (by rw [upd_same]; exact True.intro) sb7 ⟨qo, hq⟩ (td_new hl7 hd (qt_put (v := .bl true) rel rfl) g5 ⟨qo, es, ep7, hq, g2, g3, g4⟩)
    rw [upd_upd, ← allQ_snoc, ← htk] at J7
    refine ⟨⟨_, J7, n6.sameBut sb7 (Ne.symm ne)⟩, W.frame (i + 1) _ _ st5 fun b hb o e => ?_⟩
    have hb2 : b < C ∧ b < D := by
      rcases List.mem_cons.mp hb with r | r
      · rw [r]; exact ⟨lC, lD⟩
      · rw [List.mem_singleton.mp r]; exact ⟨Nat.lt_trans hat lC, Nat.lt_trans hat lD⟩
    exact (sb7.2 b (Nat.ne_of_lt hb2.2)).trans ((sb6.2 b (Nat.ne_of_lt hb2.1)).trans e)
  · rintro s5 ⟨m, J, n5⟩
    rw [hlen, List.take_length] at J
    exact fin C D s5 m _ _ J (q D hDn) n5 (fp_upd fC (Ne.symm ne))
theorem pe_dcQ {y : Str} {kp tp vp : Pos} {kk : Nat} {iter : Expr} {scope : Scope} {pos : Pos} {ti : TE} (hu : X.A.units + 1 < cLine) (hc : X.calm = true) (hk : scope.kind = .function) (hn : ∀ z ∈ scope.names, z.2 = .local → scope.names.lookup z.1 = some .local)
    (hcf : ∀ z ∈ scope.names, z.2 ≠ .cell ∧ z.2 ≠ .free) (hy : scope.names.lookup y = some .local) (hdb : (y == ("__debug__" : Str)) = false) (hs : ∀ x, foldedSetIterable iter X.env x = pure x) (hi : PE X iter ti) :
    PE X (.DictComp (.Name y kp) (.Constant (.bool true) kk vp) [⟨.Name y tp, iter, [], 0⟩] scope pos) (tDcQ X.K ti) := by
  refine ⟨fun pins s σ H Q I w => ?_⟩
  rw [arm_eval_DictComp]
  refine dcq_core hu hc hk hn hcf hy hdb hs I hi w fun C D s' m H' cl I' q ns f => ⟨m, ns, fun h3 sb => ?_⟩
  exact ⟨.ref D, H', stays_fp (t' := s'.toks) I' f fun c o hc' e => (sb.2 c hc').trans e, rfl, q⟩
theorem ps_dcQ {i : Nat} {z y : Str} {pz kp tp vp : Pos} {kk : Nat} {iter : Expr} {scope : Scope} {pos spos : Pos} {ti : TE} (hu : X.A.units + 1 < cLine) (hc : X.calm = true) (hN : X.N.Nodup) (hk : scope.kind = .function) (hn : ∀ z ∈ scope.names, z.2 = .local → scope.names.lookup z.1 = some .local)
    (hcf : ∀ z ∈ scope.names, z.2 ≠ .cell ∧ z.2 ≠ .free) (hy : scope.names.lookup y = some .local) (hdb : (y == ("__debug__" : Str)) = false) (hs : ∀ x, foldedSetIterable iter X.env x = pure x) (hi : PE X iter ti)
    (hz : X.N[i]? = some z) (hzl : X.env.scope.names.lookup z = some .local) (hsw : swapsWith (.DictComp (.Name y kp) (.Constant (.bool true) kk vp) [⟨.Name y tp, iter, [], 0⟩] scope pos) (some (.Name z pz)) spos.line X.env = pure true) :
    PS X (.Assign [.Name z pz] (.DictComp (.Name y kp) (.Constant (.bool true) kk vp) [⟨.Name y tp, iter, [], 0⟩] scope pos) spos) (tAsg (tDcQ X.K ti) (gName i)) := by
  refine ⟨fun pins s σ H D I w => ?_⟩
  rw [exec_Assign_Name_used _ _ _ _ hsw]
  refine wpAny_bind (wpAny_standAt (wpAny_bind (show wpAny _ X.A (do let _ ← comprehension (.DictComp (.Name y kp) (.Constant (.bool true) kk vp) [⟨.Name y tp, iter, [], 0⟩] scope pos) scope X.env (firstIterPos [⟨.Name y tp, iter, [], 0⟩] pos) newDict false (eval iter X.env) (some (assign (.Name z pz) X.env))) _ _ s from ?_)))
  refine wpAny_bind (thn (dcq_core (Qf := fun _ s' => SP X pins D .next s') hu hc hk hn hcf hy hdb hs I hi (show tDcQ X.K ti σ H (fun x H1 => gName i x σ H1 D.nx) from w) ?_) fun _ s' hq => wpAny_pure (wpAny_pure hq))
  intro C L s' m H' cl I' q ns f
  refine (show wpAny _ _ (assign (.Name z pz) X.env (.ref L)) _ _ _ from wpAny_assign_Name (store_ok2 (v := V.ref L) I' hN hz (.inl hzl) rfl ?_ (.inr hzl)))
  rintro s2 I2 ⟨a, sb, ha⟩
  have nca : C ≠ a := ha.elim (fun w => by rw [w]; exact f.2.1) fun w e => f.2.2.2.2.1 z a w e.symm
  exact ⟨m, ns.sameBut sb nca, fun h3 sb3 => ⟨_, H', stays_fp (t' := s2.toks) I2 f fun c o hc' e => (sb3.2 c hc').trans e, q⟩⟩
end
/-! over data -/
def allQd (ks : List (List Int)) : List (List Int × PyData) := ks.foldl (fun L k => setQd L k (.bool true)) []
def dcQK (Q : DK) : DK := fun x h1 => match x with
  | .d (.tuple ds) => ∃ ks : List (List Int), ds = ks.map tupN ∧ ks.length < 1000000 ∧ ∀ p, h1 p = none → Q (.own p) (mput h1 p (.dcT p (allQd ks)))
  | _ => False
def dDcQ (ti : DTE) : DTE := fun σ h Q => ti σ h (dcQK Q)
theorem rq_fold {K : PySem.W.Frag} {F : Hp} : ∀ (ps : List (Addr × List Int)) {M : List (List Int × PyData)} {L : List QRow}, (∀ p ∈ ps, SqT K F p.1 (p.2.map V.int)) → Paired (RQF K F) M L →
    Paired (RQF K F) ((ps.map (·.2)).foldl (fun L k => setQd L k (.bool true)) M) (ps.foldl (fun L p => putQ L p.2 p.1 (.bl true)) L)
  | [], _, _, _, r => r
  | p :: ps, _, _, hk, r => rq_fold ps (fun q hq => hk q (List.mem_cons_of_mem _ hq)) (rq_put r (hk p List.mem_cons_self) (.bl true))
theorem mono_dcQ {ti : DTE} (m : Mono ti) : Mono (dDcQ ti) := fun σ h Q Q' k w => m _ _ _ _ (fun x h1 w1 => by
  unfold dcQK at w1 ⊢
  split at w1
  · obtain ⟨ks, e, hl, w2⟩ := w1
    exact ⟨ks, e, hl, fun p hp => k _ _ (w2 p hp)⟩
  · exact w1) w
theorem dcQ_ok {K : PySem.W.Frag} {ti : DTE} (m : Mono ti) : ∀ σ H Q, liftV K Γ (dDcQ ti) σ H Q → tDcQ K (liftV K Γ ti) σ H Q := by
  rintro σ H Q ⟨σd, h, rs, rm, w⟩
  refine lift_mk m rs rm w fun x h1 v H1 px rs1 rv rm1 w1 => ?_
  unfold dcQK at w1
  split at w1
  · obtain ⟨ks, e, hl, w2⟩ := w1
    subst e
    cases rv with
    | @tup b vs _ s1 d1 =>
      obtain ⟨ps, rfl, e, sk⟩ := tups_get d1
      subst e
      rw [List.length_map] at hl
      refine ⟨b, ps, rfl, sqT_up fz_sub s1, fun p hp => sqT_up fz_sub (sk p hp), by rw [sizeLine_eq]; omega, fun D hD => ?_⟩
      obtain ⟨g1, g2, g3⟩ := own_newG (o := .dcT D (allQd (ps.map fun p : Addr × List Int => p.2))) (u := TD D (allQ ps)) hD rm1 ⟨allQ ps, rfl, rq_fold ps sk .nil⟩
      exact w2 D g3 _ _ (px.trans g1) rfl g2
  · exact w1.elim
section
variable {X : Cx} {y : Str} {kp tp vp : Pos} {kk : Nat} {iter : Expr} {scope : Scope} {pos : Pos} {ti : DTE}
theorem no_cf {names : List (Str × NameKind)} (h : (names.all fun z => match z.2 with | .cell => false | .free => false | _ => true) = true) : ∀ z ∈ names, z.2 ≠ .cell ∧ z.2 ≠ .free := fun z hz => by
  have q := List.all_eq_true.mp h z hz
  refine ⟨fun e => ?_, fun e => ?_⟩ <;> rw [e] at q <;> cases q
theorem loc_of {names : List (Str × NameKind)} (h : (names.all fun z => match z.2 with | .local => (match names.lookup z.1 with | some .local => true | _ => false) | _ => true) = true) : ∀ z ∈ names, z.2 = .local → names.lookup z.1 = some .local := fun z hz e => by
  have q := List.all_eq_true.mp h z hz
  rw [e] at q
  dsimp only at q
  split at q
  · assumption
  · cases q
theorem de_dcQ (hu : X.A.units + 1 < cLine) (hc : X.calm = true) (hi : DE X Γ iter ti) (hk : scope.kind = .function := by rfl) (hn : (scope.names.all fun z => match z.2 with | .local => (match scope.names.lookup z.1 with | some .local => true | _ => false) | _ => true) = true := by rfl)
    (hcf : (scope.names.all fun z => match z.2 with | .cell => false | .free => false | _ => true) = true := by rfl) (hy : scope.names.lookup y = some .local := by rfl) (hdb : (y == ("__debug__" : Str)) = false := by rfl) (hs : ∀ x, foldedSetIterable iter X.env x = pure x := by intro _; rfl) :
    DE X Γ (.DictComp (.Name y kp) (.Constant (.bool true) kk vp) [⟨.Name y tp, iter, [], 0⟩] scope pos) (dDcQ ti) :=
  ⟨mono_dcQ hi.mono, pe_imp (pe_dcQ hu hc hk (loc_of hn) (no_cf hcf) hy hdb hs hi.pe) (dcQ_ok hi.mono)⟩
theorem ds_dcQ (i : Nat) {z : Str} {pz spos : Pos} (hu : X.A.units + 1 < cLine) (hc : X.calm = true) (hN : X.N.Nodup) (hi : DE X Γ iter ti) (hk : scope.kind = .function := by rfl)
    (hn : (scope.names.all fun z => match z.2 with | .local => (match scope.names.lookup z.1 with | some .local => true | _ => false) | _ => true) = true := by rfl)
    (hcf : (scope.names.all fun z => match z.2 with | .cell => false | .free => false | _ => true) = true := by rfl) (hy : scope.names.lookup y = some .local := by rfl) (hdb : (y == ("__debug__" : Str)) = false := by rfl) (hs : ∀ x, foldedSetIterable iter X.env x = pure x := by intro _; rfl)
    (hz : X.N[i]? = some z := by rfl) (hzl : X.env.scope.names.lookup z = some .local := by rfl) (hsw : swapsWith (.DictComp (.Name y kp) (.Constant (.bool true) kk vp) [⟨.Name y tp, iter, [], 0⟩] scope pos) (some (.Name z pz)) spos.line X.env = pure true := by rfl) :
    DS X Γ (.Assign [.Name z pz] (.DictComp (.Name y kp) (.Constant (.bool true) kk vp) [⟨.Name y tp, iter, [], 0⟩] scope pos) spos) (dAsg (dDcQ ti) (.nm i)) := by
  refine ⟨mono_asg (mono_dcQ hi.mono), ps_imp (ps_dcQ hu hc hN hk (loc_of hn) (no_cf hcf) hy hdb hs hi.pe hz hzl hsw) fun D σ H q => ?_⟩
  exact dcQ_ok hi.mono _ _ _ (asg_lift (g := .nm i) (mono_dcQ hi.mono) D σ H q)
end
section
variable {σ : DSt} {h : MH} {Q : DK}
theorem e_dcQ {ti : DTE} (k : ti σ h (dcQK Q)) : dDcQ ti σ h Q := k
theorem k_dcQ {ks : List (List Int)} {ds : List PyData} (e : ds = ks.map tupN) (hl : ks.length < 1000000) (k : ∀ p, h p = none → Q (.own p) (mput h p (.dcT p (allQd ks)))) : dcQK Q (.d (.tuple ds)) h := ⟨ks, e, hl, k⟩
end

/-! ## sorted(set(a tuple of tuples of ints)) -/
section
variable {P : Program} {w : World} {A : Around} {E : Value → Shared → Prop} {s : Shared}
theorem set_tups {l : Addr} {items : Array Value} (ks : List (Addr × List Int)) {Q : Value → Shared → Prop} (hh : A.handled = none) (tl : s.heap.IsTuple l items) (hit : items.toList = ks.map fun p => Value.ref p.1)
    (hk : ∀ p ∈ ks, IsT P w s.heap p.2 p.1) (hfew : ks.length < 64) (hu : A.units + 3 < cLine)
    (h : ∀ (h' : Heap) (tk : Nat) L es ep t, SetTR P w h' s.heap.objs.size L es ep t → Got ks ks.length L → (∀ b o, s.heap.get? b = some o → h'.get? b = some o) → Q (.ref s.heap.objs.size) { s with heap := h', toks := tk }) :
    wpAny (model P w) A (call (.type "set") [.ref l]) Q E s := by
  have sz : items.size = ks.length := by rw [← Array.length_toList, hit, List.length_map]
  obtain ⟨s1, e1⟩ : ∃ s1 : Shared, s1 = { s with heap := s.heap.push (bareSet w) } := ⟨_, rfl⟩
  have at1 : s1.heap.get? s.heap.objs.size = some (bareSet w) := by rw [e1]; exact Heap.get?_push_size _ rfl
  refine set_call e1 at1 ?_
  have tl1 : s1.heap.IsTuple l items := by rw [e1]; exact tl.push _
  have ls : l < s.heap.objs.size := by obtain ⟨o, e, _⟩ := tl; exact Heap.lt_size e
  have sz1 : s1.heap.objs.size = s.heap.objs.size + 1 := by rw [e1]; exact Heap.size_push ..
  have old1 : ∀ b o, s.heap.get? b = some o → s1.heap.get? b = some o := fun b o e => by rw [e1]; exact Heap.get?_push_of_some _ e
  have q1 := F.sub_tuple_set
  have q2 := F.sub_tuple_frozenset
  have q3 : (Value.type "tuple" == Value.type "dict") = false := by decide
  have tl2 := tl1
  obtain ⟨o1, g1, g2, g3, g4⟩ := tl2
  obtain ⟨oc, od, odt, osl⟩ := o1
  dsimp only at g2 g4
  subst g2 g4
  unfold Builtin.«set.__init__» noKeywords Builtin.Frozenset.updateFrom
  generalize hPI : pyIter = PI
  wp_walk
  subst hPI
  refine wpAny_pyIter_tuple tl1 (wpAny_bind (wpAny_runValue ?_))
  have gone : ∀ b, s.heap.objs.size ≤ b → s.heap.get? b = none := fun b hb => Option.eq_none_iff_forall_ne_some.mpr fun o e => absurd (Heap.lt_size e) (Nat.not_lt.mpr hb)
  have W := (Walks.tuple (prog := P) (w := w) (A := A.in1.in1.in1) (by simp [hh]) s1.heap.objs.size l (by rw [sz1]; exact Nat.ne_of_lt (Nat.lt_succ_of_lt ls)) items).toS
  refine set_update_tups W s.heap.objs.size (by
    rw [sz1]
    intro z
    rcases List.mem_cons.mp z with z | z
    · exact absurd z (Nat.ne_of_lt (Nat.lt_succ_self _))
    · exact absurd (List.mem_singleton.mp z) (Nat.ne_of_gt ls)) ks sz hfew (fun i v hv => ?_) s.heap hk (gone _ (Nat.le_refl _)) (fun b hb => gone b (by rw [List.mem_singleton.mp hb, sz1]; exact Nat.le_succ _)) hu items.size 0 _ (by omega) (Nat.zero_le _)
    ⟨⟨_, Heap.get?_push_size _ rfl, rfl, rfl⟩, tl1.push _⟩ (fun b o e => Heap.get?_push_of_some _ (old1 b o e)) ⟨[], #[], 0, _, setTR_fresh (Heap.get?_push_of_some _ at1), Got.zero ks⟩ fun s3 L es ep t mv R g k => ?_
  · have q : items.toList[i]? = some v := by rw [Array.getElem?_toList]; exact hv
    rw [hit, List.getElem?_map] at q
    obtain ⟨p, e, ev⟩ := Option.map_eq_some_iff.mp q
    exact ⟨p, e, ev.symm⟩
  · rw [sz] at g
    have r1 : s3.gens = s.gens := by rw [show s3.gens = s1.gens from mv.gens, e1]
    have r2 : s3.drawn = s.drawn := by rw [show s3.drawn = s1.drawn from mv.drawn, e1]
    have r3 : s3.os = s.os := by rw [show s3.os = s1.os from mv.os, e1]
    have fin := h s3.heap s3.toks L es ep t R g k
    rw [← r1, ← r2, ← r3] at fin
    exact wpAny_pure (wpAny_pure ⟨rfl, fin⟩)
end
def tSortSetU (K : PySem.W.Frag) (ta : TE) : TE := fun σ H Q => ta σ H fun x H1 => ∃ (l : Addr) (ks : List (Addr × List Int)) (m : Nat), x = V.ref l ∧ SqT K H1 l (ks.map fun p => V.ref p.1) ∧ (∀ p ∈ ks, SqT K H1 p.1 (p.2.map V.int)) ∧ ks.length < 64 ∧ 1 ≤ m ∧ (∀ p ∈ ks, p.2.length = m) ∧
  ∀ (L : List (Addr × List Int)) (p : Addr), (∀ q ∈ L, q ∈ ks) → (∀ q ∈ ks, q.2 ∈ L.map (·.2)) → L.Pairwise (fun q r => lexL q.2 r.2 = true) → H1 p = none → Q (.ref p) (upd H1 p (.lst (L.map fun q => V.ref q.1)))
section
variable {X : Cx} {a b c : Expr} {ta : TE}
theorem pe_sortSetU {p p2 q pos : Pos} (hc : X.calm = true) (hu : X.A.units + 64 < cLine) (hg : Gl X "sorted") (hm : X.mg "sorted" = none) (hg2 : Gl X "set") (hm2 : X.mg "set" = none) (ha : PE X a ta)
    (na : starEach [a] X.env = (false, eval a X.env) :: starEach [] X.env := by rfl) : PE X (.Call (.Name "sorted" p) [.Call (.Name "set" p2) [a] [] q] [] pos) (tSortSetU X.K ta) := by
  refine ⟨fun pins s σ H Q I h => ?_⟩
  refine Call_ (ld_blt I hg hm (by rfl) (PyProof.Rows.callWith_builtin1 (PyProof.Rows.args_cons ?_ rfl) rfl rfl))
  refine Call_ (ld_blt I hg2 hm2 PyProof.Rows.boot_set (PyProof.Rows.callWith_type1 (PyProof.Rows.args_cons (thn (ha.run pins s σ H _ I h) fun v s1 ⟨x, H1, I1, r1, q1⟩ => PyProof.Rows.args_nil ?_) na) na rfl))
  obtain ⟨l, ks, m, rfl, hq, hk, hf, hm1, hlen, q1⟩ := q1
  cases r1
  obtain ⟨its, r, pl, hz⟩ := I1.tuple hq
  refine set_tups (P := X.prog) (w := X.w) ks (I1.ok.hd hc) (show s1.heap.IsTuple l its.toArray from pl) (by simpa using refs_of_vals r) (fun p hp => I1.isT (hk p hp)) hf (by omega) fun h' tk L es ep t R g k => PyProof.Rows.args_nil ?_
  have I2 : Inv X pins σ H1 { s1 with heap := h', toks := tk } := I1.kept fun b o e => k b o e
  have R : SetTR X.prog X.w ({ s1 with heap := h', toks := tk } : Shared).heap s1.heap.objs.size L es ep t := R
  generalize ({ s1 with heap := h', toks := tk } : Shared) = s2 at *
  have sub : ∀ p ∈ L, p ∈ ks := fun p hp => List.mem_of_mem_take (g.sub p hp)
  refine sorted_setO R (I2.ok.hd hc) hm1 (fun p hp => hlen p (sub p hp)) fun s' p out c L' k g2 o hp hg hout pm pw => ?_
  have hn : H1 p = none := I2.hok.fresh hp
  have few := R.few
  have hl2 : (L'.map fun q => V.ref q.1).length ≤ sizeLine := by rw [List.length_map, pm.length_eq, sizeLine_eq]; omega
  have hv : Vals (L'.map fun q => V.ref q.1) out.toList := by rw [hout]; exact vals_of_refs L'
  have J : Inv X pins σ (upd H1 p (.lst (L'.map fun q => V.ref q.1))) { s2 with heap := s'.heap, gens := s'.gens, drawn := s'.drawn, toks := s'.toks } :=
    I2.call (ch := []) (Un.laid k hp hn) (I2.hok.laid k hp ⟨hl2, out.toList, c, hv, hg⟩) (by rw [g2]; exact I2.bare) (fun _ z => nomatch z)
  have e : s' = { s2 with heap := s'.heap, gens := s'.gens, drawn := s'.drawn, toks := s'.toks } := by
    cases s'; cases s2; cases o; rfl
  rw [e]
  have nd : (L'.map (·.2)).Nodup := (pm.map (·.2)).nodup_iff.mpr R.nd
  have pw2 : L'.Pairwise (fun q r => lexL q.2 r.2 = true) := by
    refine (pw.and (List.pairwise_map.mp nd)).imp fun {q r} ⟨z1, z2⟩ => ?_
    cases y : lexL q.2 r.2 with
    | true => rfl
    | false =>
      have z3 : lexL r.2 q.2 = false := by unfold leL at z1; simpa using z1
      exact absurd (lex_total _ _ y z3) z2
  refine ⟨.ref p, _, J, rfl, q1 L' p (fun q hq => sub q (pm.mem_iff.mp hq)) (fun q hq => ?_) pw2 hn⟩
  exact (pm.map (·.2)).mem_iff.mpr (g.all q (by rw [List.take_length]; exact hq))
end
def fSortSetU (ta : DTE) : DTF := fun σ h Q => ta σ h fun x h1 => match x with
  | .d (.tuple ds) => ∃ (ks : List (List Int)) (m : Nat), ds = ks.map tupN ∧ ks.length < 64 ∧ 1 ≤ m ∧ (∀ k ∈ ks, k.length = m) ∧ ∀ ms : List (List Int), ms.Pairwise (fun a b => lexL a b = true) → (∀ k, k ∈ ms ↔ k ∈ ks) → Q (ms.map tupN) h1
  | _ => False
section
variable {X : Cx} {Γ : GI} {a b c e : Expr} {pos p2 : Pos} {ta tb tc te : DTE} {tg : Expr}
theorem df_sortSetU {t : DTE} {p p2 q pos : Pos} (hc : X.calm = true) (hu : X.A.units + 64 < cLine) (hg : Gl X "sorted") (hm : X.mg "sorted" = none) (hg2 : Gl X "set") (hm2 : X.mg "set" = none) (ha : DE X Γ a t)
    (na : starEach [a] X.env = (false, eval a X.env) :: starEach [] X.env := by rfl) : DF X Γ (.Call (.Name "sorted" p) [.Call (.Name "set" p2) [a] [] q] [] pos) (fSortSetU t) :=
  ⟨fun σ h Q Q' k w => ha.mono _ _ _ _ (fun x h1 w1 => by
    split at w1
    · obtain ⟨ks, m, e, hl, h1, h2, w2⟩ := w1
      exact ⟨ks, m, e, hl, h1, h2, fun ms a b => k _ _ (w2 ms a b)⟩
    · exact w1) w, pe_imp (pe_sortSetU hc hu hg hm hg2 hm2 ha.pe na) fun σ H Q ⟨σd, h, rs, rm, w⟩ => lift_mk ha.mono rs rm w fun x h1 v H1 px rs1 rv rm1 w1 => by
      split at w1
      · obtain ⟨ks, m, e2, hl, hm1, hlen, w2⟩ := w1
        subst e2
        obtain ⟨b, vs, rfl, s1, d1⟩ : ∃ b vs, v = .ref b ∧ SqT X.K (Fz Γ H1 h1) b vs ∧ DpAll X.K (Fz Γ H1 h1) vs (ks.map tupN) := by
          cases rv with
          | @tup b vs _ s1 d1 => exact ⟨b, vs, rfl, s1, d1⟩
        obtain ⟨ps, rfl, rfl, sq⟩ := tups_get d1
        refine ⟨b, ps, m, rfl, sqT_up fz_sub s1, fun p hp => sqT_up fz_sub (sq p hp), by simpa using hl, hm1, fun p hp => hlen _ (List.mem_map.mpr ⟨p, hp, rfl⟩), fun L p sub all pw hn => ?_⟩
        refine w2 (L.map (·.2)) (List.pairwise_map.mpr pw) (fun k => ⟨fun hk => ?_, fun hk => ?_⟩) _ _ _ px (dps_tups L fun q hq => sq q (sub q hq)) rm1 hn
        · obtain ⟨q, hq, rfl⟩ := List.mem_map.mp hk
          exact List.mem_map.mpr ⟨q, sub q hq, rfl⟩
        · obtain ⟨q, hq, rfl⟩ := List.mem_map.mp hk
          exact all q hq
      · exact w1.elim⟩

end
def sortSetUK (QL : List PyData → MH → Prop) : DK := fun x h1 => match x with
  | .d (.tuple ds) => ∃ (ks : List (List Int)) (m : Nat), ds = ks.map tupN ∧ ks.length < 64 ∧ 1 ≤ m ∧ (∀ k ∈ ks, k.length = m) ∧ ∀ ms : List (List Int), ms.Pairwise (fun a b => lexL a b = true) → (∀ k, k ∈ ms ↔ k ∈ ks) → QL (ms.map tupN) h1
  | _ => False
theorem e_sortSetU {ta : DTE} {σ : DSt} {h : MH} {QL : List PyData → MH → Prop} (k : ta σ h (sortSetUK QL)) : fSortSetU ta σ h QL := k
theorem k_sortSetU {ks : List (List Int)} {m : Nat} {ds : List PyData} {h : MH} {QL : List PyData → MH → Prop} (e : ds = ks.map tupN) (hl : ks.length < 64) (hm : 1 ≤ m) (ha : ∀ k ∈ ks, k.length = m) (k : ∀ ms : List (List Int), ms.Pairwise (fun a b => lexL a b = true) → (∀ k, k ∈ ms ↔ k ∈ ks) → QL (ms.map tupN) h) :
    sortSetUK QL (.d (.tuple ds)) h := ⟨ks, m, e, hl, hm, ha, k⟩
/-! steps -/
section
variable {σ : DSt} {h : MH} {Q : DK}
theorem e_getQ {to ti : DTE} (k : to σ h fun x h1 => match asQd h1 x with
  | some _ => ti σ h1 fun y h2 => match asQd h2 x, tupI y with
    | some p, some k => Q (.d ((lookQ p.2 k).getD .none)) h2
    | _, _ => False
  | none => False) : dGetQ to ti σ h Q := k
def getQ1 (ti : DTE) (σ : DSt) (Q : DK) : DK := fun x h1 => match asQd h1 x with
  | some _ => ti σ h1 fun y h2 => match asQd h2 x, tupI y with
    | some p, some k => Q (.d ((lookQ p.2 k).getD .none)) h2
    | _, _ => False
  | none => False
theorem k_getQ {ti : DTE} {a : Addr} {ps : List (List Int × PyData)} (e : h a = some (.dcT a ps)) (k : ti σ h fun y h2 => ∃ ks, tupI y = some ks ∧ h2 a = some (.dcT a ps) ∧ Q (.d ((lookQ ps ks).getD .none)) h2) (m : Mono ti) : getQ1 ti σ Q (.own a) h := by
  unfold getQ1
  rw [asQd_own e]
  refine m _ _ _ _ (fun y h2 w => ?_) k
  obtain ⟨ks, e1, e2, w⟩ := w
  rw [asQd_own e2, e1]
  exact w
theorem k_setQ {D : DEnds} {a : Addr} {ps : List (List Int × PyData)} {i : SV} {k : List Int} {d : PyData} (e : h a = some (.dcT a ps)) (e2 : tupI i = some k) (hl : ps.length < 1000000) (w : D.nx σ (mput h a (.dcT a (setQd ps k d)))) : setQK D σ (.d d) (.own a) i h := by
  unfold setQK
  rw [asQd_own e, e2]
  exact ⟨by rw [sizeLine_eq]; show ps.length < _; omega, w⟩
end
end DL

namespace DL
open PySem PySem.Spec PyProof.Rows L2
set_option autoImplicit true

/-! ## a, (b, c, ..) = value -/
def bindN (i : Nat) (js : List Nat) (x : SV) (σ : DSt) : Option DSt := match x with
  | .d (.tuple [a, .tuple ds]) => if ds.length = js.length then some (setAll js ds (σ.set i (some (.d a)))) else none
  | _ => none
def asgNK (i : Nat) (js : List Nat) (D : DEnds) (σ : DSt) : DK := fun x h1 => match bindN i js x σ with
  | some σ' => D.nx σ' h1
  | none => False
def dAsgN (te : DTE) (i : Nat) (js : List Nat) : DTS := fun D σ h => te σ h (asgNK i js D σ)
theorem bindN_ok {K : PySem.W.Frag} {H : Hp} {h : MH} {i : Nat} {js : List Nat} {x : SV} {v : V} {σd σd' : DSt} {σ : L2.St} {Q : L2.St → Hp → Prop} (rv : RV K Γ H h x v) (rs : RSt K Γ H h σd σ) (e : bindN i js x σd = some σd') (k : ∀ σ', RSt K Γ H h σd' σ' → Q σ' H) :
    gTup K 2 (gCons (gName i) (gCons (gTup K js.length (rawGs js)) gNil)) v σ H Q := by
  unfold bindN at e
  split at e
  · rename_i a ds
    split at e
    · rename_i q
      cases e
      have rv' : Dp K (Fz Γ H h) v (.tuple [a, .tuple ds]) := rv
      cases rv' with
      | @tup p vs _ s1 dd =>
        cases dd with
        | @cons va _ vr _ d1 dr =>
          cases dr with
          | @cons vt _ vn _ d2 dn =>
            cases dn
            cases d2 with
            | @tup b ws _ s2 dw =>
              refine ⟨p, _, rfl, sqT_up fz_sub s1, rfl, _, _, rfl, _, _, rfl, b, ws, rfl, sqT_up fz_sub s2, by rw [dps_len dw]; exact q, ?_⟩
              exact rawGs_ok dw q (rs.set (show RV K Γ H h (.d a) va from d1)) fun σ' rs' _ => ⟨rfl, k σ' rs'⟩
    · cases e
  · cases e
section
variable {X : Cx} {e t1 t2 : Expr} {te : DTE} {pos pt : Pos}
theorem ds_asgN {i kt : Nat} {js : List Nat} (hc : X.calm = true) (he : DE X Γ e te) (g1 : DG X t1 (.nm i)) (g2 : DG X t2 (.tup js))
    (ha1 : (assignEach (t1 :: [t2]) X.env).map (·.2) = assign t1 X.env :: (assignEach [t2] X.env).map (·.2) := by rfl) (ha2 : (assignEach (t2 :: []) X.env).map (·.2) = assign t2 X.env :: (assignEach [] X.env).map (·.2) := by rfl)
    (hn : (assignEach [t1, t2] X.env).length = 2 := by rfl) (hst : (assignEach [t1, t2] X.env).findIdx? (·.1) = none := by rfl)
    (hs : swapsWithSole [.Tuple [t1, t2] kt pt] e pos.line X.env = pure false := by rfl) (hw : swappedStores [.Tuple [t1, t2] kt pt] e X.env = pure none := by rfl)
    (h1 : (assignEach [.Tuple [t1, t2] kt pt] X.env).map (·.2) = [assign (.Tuple [t1, t2] kt pt) X.env] := by rfl) : DS X Γ (.Assign [.Tuple [t1, t2] kt pt] e pos) (dAsgN te i js) := by
  have mono : MonoS (dAsgN te i js) := fun D D' σ h l w => he.mono _ _ _ _ (fun x h1 w1 => by
    unfold asgNK at w1 ⊢
    split at w1
    · exact l.nx _ _ w1
    · exact w1) w
  have pg : PG X (.Tuple [t1, t2] kt pt) (gTup X.K 2 (gCons (gName i) (gCons (gTup X.K js.length (rawGs js)) gNil))) := pg_tup hc (pgs_cons g1.pg (pgs_cons g2.pg pgs_nil ha2) ha1) hn hst
  refine ⟨mono, ps_imp (ps_asg he.pe pg hs hw h1) fun D σ H ⟨σd, h, rs, rm, w⟩ => lift_mk he.mono rs rm w fun x h1 v H1 px rs1 rv rm1 w1 => ?_⟩
  unfold asgNK at w1
  split at w1
  · rename_i σ' e1
    exact bindN_ok rv rs1 e1 fun σr rs' => w1 σr H1 px rs' rm1
  · exact w1.elim
end
theorem e_asgN {te : DTE} {i : Nat} {js : List Nat} {D : DEnds} {σ : DSt} {h : MH} (k : te σ h (asgNK i js D σ)) : dAsgN te i js D σ h := k
theorem k_asgN2 {i j l : Nat} {D : DEnds} {σ : DSt} {h : MH} {a b c : PyData} (k : D.nx (((σ.set i (some (.d a))).set j (some (.d b))).set l (some (.d c))) h) : asgNK i [j, l] D σ (.d (.tuple [a, .tuple [b, c]])) h := k
end DL

namespace DL.G
open PySem PySem.Spec PyProof.Rows L2
set_option autoImplicit true

def top (i : Nat) : Stmt := PySem.Challenge.pw_besideindex_k62_read_by_entries.main.body.getD i (.Pass ⟨0, 0, 0, 0⟩)
/-! ### need_writer -/
abbrev s_need_writer : Stmt := top 4
theorem sc_need_writer : FnScope ["stand", "writer"] ["stand", "writer"] (defScope s_need_writer) := ⟨rfl, rfl, rfl, by decide +kernel, rfl, by decide +kernel, by decide +kernel⟩
def t_need_writer (E : DXS) : DTS := (dIfS (dOr (dTest (dOp rdLt (dVar 1) (dC (.int 0)))) (dTest (dOp rdGe (dVar 1) (dB rdLen (dCons (dOp rdIx (dVar 0) (dC (.int 2))) dNil))))) (dRaise1 E "NoWriter" "number" (dCons (dVar 1) dNil)) dNext)
def W_need_writer : DSp := fnW ["stand", "writer"] ["stand", "writer"] t_need_writer
theorem f_need_writer {P : Program} {w : World} {K : PySem.W.Frag} {mg : Str → Option Value} {base : Heap} {T : List (Addr × Str)} {k : Nat} {f : Addr} {fd : FuncData} (F : Fun K "need_writer" "need_writer" s_need_writer f fd) (g_len : mg "len" = none) (e_NoWriter : Err1 K mg "NoWriter" "number") :
    FnG P w K mg base T (k + 1) f fd ["stand", "writer"] W_need_writer := by
  have c_ := sc_need_writer
  refine fn_g (k := k) F sc_need_writer fun cdv A outer s H E' Γ Ed hcd hΓ hr hg tk => ?_
  have r1_ := room1 hr
  have r64_ := room64 hr
  have r65_ := room65 hr
  exact (dss_one (ds_if (DW.dt (dw_or (dt_cmp (op_ltG r1_) lr_lt (dv 1) de_int) (dw_or1 (dt_cmp (op_geG r1_) lr_ge (dv 1) (de_callB cr_len la_len (by rfl) g_len (by decide +kernel) (da_cons (de_ix r1_ (dv 0) de_int) da_nil)))))) (dss_one (ds_raiseE (by rfl) e_NoWriter hr tk (da_cons (dv 1) da_nil))) dss_nil))
/-! ### is_done_by -/
abbrev s_is_done_by : Stmt := top 5
theorem sc_is_done_by : FnScope ["stand", "other", "view", "fate"] ["stand", "other", "view"] (defScope s_is_done_by) := ⟨rfl, rfl, rfl, by decide +kernel, rfl, by decide +kernel, by decide +kernel⟩
def t_is_done_by : DTS := (dSeq (dIfS (dTest (dOp rdIsN (dVar 1) (dC .none))) (dRet (dC (.bool false))) dNext)
  (dSeq (dAsg (dOp rdIx (dOp rdIx (dVar 0) (dC (.int 2))) (dVar 1)) (.nm 3))
  (dRet (dAndV (dOp rdEq (dOp rdIx (dVar 3) (dC (.int 0))) (dC (.str "done"))) (dOp rdLe (dOp rdIx (dVar 3) (dC (.int 1))) (dVar 2))))))
def W_is_done_by : DSp := fnW ["stand", "other", "view", "fate"] ["stand", "other", "view"] fun _ => t_is_done_by
theorem f_is_done_by {P : Program} {w : World} {K : PySem.W.Frag} {mg : Str → Option Value} {base : Heap} {T : List (Addr × Str)} {k : Nat} {f : Addr} {fd : FuncData} (F : Fun K "is_done_by" "is_done_by" s_is_done_by f fd) :
    FnG P w K mg base T (k + 1) f fd ["stand", "other", "view"] W_is_done_by := by
  have c_ := sc_is_done_by
  refine fn_g (k := k) F sc_is_done_by fun cdv A outer s H E' Γ Ed hcd hΓ hr hg tk => ?_
  have r1_ := room1 hr
  have r64_ := room64 hr
  have r65_ := room65 hr
  exact (dss_cons (ds_if (dt_cmp op_isN lr_isN (dv 1) de_non) (dss_one (ds_ret de_bl)) dss_nil)
    (dss_cons (ds_set 3 c_.nd (de_ix r1_ (de_ix r1_ (dv 0) de_int) (dv 1)))
    (dss_one (ds_ret (de_and (de_cmp (op_eqA r64_) lr_eq (de_ix r1_ (dv 3) de_int) de_str) (de_one (de_cmp (op_leG r1_) lr_le (de_ix r1_ (dv 3) de_int) (dv 2))))))))
/-! ### is_on -/
abbrev s_is_on : Stmt := top 6
theorem sc_is_on : FnScope ["stand", "other", "writer"] ["stand", "other", "writer"] (defScope s_is_on) := ⟨rfl, rfl, rfl, by decide +kernel, rfl, by decide +kernel, by decide +kernel⟩
def t_is_on (E : DXS) : DTS := (dSeq (dDrop (dCall E W_need_writer (dCons (dVar 0) (dCons (dVar 2) dNil))))
  (dRet (dAndV (dOp rdNotN (dVar 1) (dC .none)) (dOrV (dOp rdEq (dVar 1) (dVar 2)) (dCall noX W_is_done_by (dCons (dVar 0) (dCons (dVar 1) (dCons (dOp rdIx (dOp rdIx (dVar 0) (dC (.int 3))) (dVar 2)) dNil))))))))
def W_is_on : DSp := fnW ["stand", "other", "writer"] ["stand", "other", "writer"] t_is_on
theorem f_is_on {P : Program} {w : World} {K : PySem.W.Frag} {mg : Str → Option Value} {base : Heap} {T : List (Addr × Str)} {k : Nat} {f : Addr} {fd : FuncData} (F : Fun K "is_on" "is_on" s_is_on f fd) (c_is_done_by : FnC P w K mg base T k "is_done_by" ["stand", "other", "view"] W_is_done_by) (c_need_writer : FnC P w K mg base T k "need_writer" ["stand", "writer"] W_need_writer) :
    FnG P w K mg base T (k + 1) f fd ["stand", "other", "writer"] W_is_on := by
  have c_ := sc_is_on
  refine fn_g (k := k) F sc_is_on fun cdv A outer s H E' Γ Ed hcd hΓ hr hg tk => ?_
  have r1_ := room1 hr
  have r64_ := room64 hr
  have r65_ := room65 hr
  exact (dss_cons (ds_expr (de_fn hΓ c_need_writer hr hg tk (da_cons (dv 0) (da_cons (dv 2) da_nil))))
    (dss_one (ds_ret (de_and (de_cmp op_notN lr_notN (dv 1) de_non) (de_one (de_or (de_cmp (op_eqA r64_) lr_eq (dv 1) (dv 2)) (de_one (de_fn hΓ c_is_done_by hr hg takes_no (da_cons (dv 0) (da_cons (dv 1) (da_cons (de_ix r1_ (de_ix r1_ (dv 0) de_int) (dv 2)) da_nil)))))))))))
/-! ### sees -/
abbrev s_sees : Stmt := top 7
theorem sc_sees : FnScope ["stand", "version", "writer"] ["stand", "version", "writer"] (defScope s_sees) := ⟨rfl, rfl, rfl, by decide +kernel, rfl, by decide +kernel, by decide +kernel⟩
def t_sees (E : DXS) : DTS := (dRet (dAndV (dCall E W_is_on (dCons (dVar 0) (dCons (dOp rdIx (dVar 1) (dC (.int 3))) (dCons (dVar 2) dNil)))) (dNotV (dCall E W_is_on (dCons (dVar 0) (dCons (dOp rdIx (dVar 1) (dC (.int 4))) (dCons (dVar 2) dNil)))))))
def W_sees : DSp := fnW ["stand", "version", "writer"] ["stand", "version", "writer"] t_sees
theorem f_sees {P : Program} {w : World} {K : PySem.W.Frag} {mg : Str → Option Value} {base : Heap} {T : List (Addr × Str)} {k : Nat} {f : Addr} {fd : FuncData} (F : Fun K "sees" "sees" s_sees f fd) (c_is_on : FnC P w K mg base T k "is_on" ["stand", "other", "writer"] W_is_on) :
    FnG P w K mg base T (k + 1) f fd ["stand", "version", "writer"] W_sees := by
  have c_ := sc_sees
  refine fn_g (k := k) F sc_sees fun cdv A outer s H E' Γ Ed hcd hΓ hr hg tk => ?_
  have r1_ := room1 hr
  have r64_ := room64 hr
  have r65_ := room65 hr
  exact (dss_one (ds_ret (de_and (de_fn hΓ c_is_on hr hg tk (da_cons (dv 0) (da_cons (de_ix r1_ (dv 1) de_int) (da_cons (dv 2) da_nil)))) (de_one (de_not (de_fn hΓ c_is_on hr hg tk (da_cons (dv 0) (da_cons (de_ix r1_ (dv 1) de_int) (da_cons (dv 2) da_nil)))))))))
/-! ### entry_of -/
abbrev s_entry_of : Stmt := top 9
theorem sc_entry_of : FnScope ["version", "column"] ["version", "column"] (defScope s_entry_of) := ⟨rfl, rfl, rfl, by decide +kernel, rfl, by decide +kernel, by decide +kernel⟩
def t_entry_of : DTS := (dRet (dTup (dCons (dOp rdIx (dOp rdIx (dVar 0) (dC (.int 2))) (dVar 1)) (dCons (dOp rdIx (dVar 0) (dC (.int 1))) (dCons (dOp rdIx (dVar 0) (dC (.int 5))) dNil)))))
def W_entry_of : DSp := fnW ["version", "column"] ["version", "column"] fun _ => t_entry_of
theorem f_entry_of {P : Program} {w : World} {K : PySem.W.Frag} {mg : Str → Option Value} {base : Heap} {T : List (Addr × Str)} {k : Nat} {f : Addr} {fd : FuncData} (F : Fun K "entry_of" "entry_of" s_entry_of f fd) :
    FnG P w K mg base T (k + 1) f fd ["version", "column"] W_entry_of := by
  have c_ := sc_entry_of
  refine fn_g (k := k) F sc_entry_of fun cdv A outer s H E' Γ Ed hcd hΓ hr hg tk => ?_
  have r1_ := room1 hr
  have r64_ := room64 hr
  have r65_ := room65 hr
  exact (dss_one (ds_ret (de_tup (da_cons (de_ix r1_ (de_ix r1_ (dv 0) de_int) (dv 1)) (da_cons (de_ix r1_ (dv 0) de_int) (da_cons (de_ix r1_ (dv 0) de_int) da_nil))))))
/-! ### is_between -/
abbrev s_is_between : Stmt := top 11
theorem sc_is_between : FnScope ["key", "low", "high"] ["key", "low", "high"] (defScope s_is_between) := ⟨rfl, rfl, rfl, by decide +kernel, rfl, by decide +kernel, by decide +kernel⟩
def t_is_between : DTS := (dRet (dAndV (dOrV (dOp rdIsN (dVar 1) (dC .none)) (dOp rdGe (dVar 0) (dVar 1))) (dOrV (dOp rdIsN (dVar 2) (dC .none)) (dOp rdLe (dVar 0) (dVar 2)))))
def W_is_between : DSp := fnW ["key", "low", "high"] ["key", "low", "high"] fun _ => t_is_between
theorem f_is_between {P : Program} {w : World} {K : PySem.W.Frag} {mg : Str → Option Value} {base : Heap} {T : List (Addr × Str)} {k : Nat} {f : Addr} {fd : FuncData} (F : Fun K "is_between" "is_between" s_is_between f fd) :
    FnG P w K mg base T (k + 1) f fd ["key", "low", "high"] W_is_between := by
  have c_ := sc_is_between
  refine fn_g (k := k) F sc_is_between fun cdv A outer s H E' Γ Ed hcd hΓ hr hg tk => ?_
  have r1_ := room1 hr
  have r64_ := room64 hr
  have r65_ := room65 hr
  exact (dss_one (ds_ret (de_and (de_or (de_cmp op_isN lr_isN (dv 1) de_non) (de_one (de_cmp (op_geG r1_) lr_ge (dv 0) (dv 1)))) (de_one (de_or (de_cmp op_isN lr_isN (dv 2) de_non) (de_one (de_cmp (op_leG r1_) lr_le (dv 0) (dv 2))))))))
/-! ### read_entries -/
abbrev s_read_entries : Stmt := top 12
theorem sc_read_entries : FnScope ["stand", "writer", "column", "entries", "low", "high", "by_root", "version", "found", "key", "row", "root"] ["stand", "writer", "column", "entries", "low", "high"] (defScope s_read_entries) := ⟨rfl, rfl, rfl, by decide +kernel, rfl, by decide +kernel, by decide +kernel⟩
def t_read_entries (E : DXS) : DTS := (dSeq (dAsg dNewQ (.nm 6))
  (dSeq (dFor (wSeq (dOp rdIx (dVar 0) (dC (.int 1)))) (.nm 7) (dIfS (dTest (dCall E W_sees (dCons (dVar 0) (dCons (dVar 7) (dCons (dVar 1) dNil))))) (dSetQ (dVar 7) (dVar 6) (dTup (dCons (dOp rdIx (dVar 7) (dC (.int 1))) (dCons (dOp rdIx (dVar 7) (dC (.int 5))) dNil)))) dNext))
  (dSeq (dAsg (dOwn (fLst dNil)) (.nm 8))
  (dSeq (dFor (wSeq (dL (fSortSetU (dVar 3)))) (.tup [9, 10, 11]) (dSeq (dAsg (dGetQ (dVar 6) (dTup (dCons (dVar 10) (dCons (dVar 11) dNil)))) (.nm 7))
  (dIfS (dAnd (dTest (dOp rdNotN (dVar 7) (dC .none))) (dAnd (dTest (dOp rdEq (dOp rdIx (dOp rdIx (dVar 7) (dC (.int 2))) (dVar 2)) (dVar 9))) (dTest (dCall noX W_is_between (dCons (dVar 9) (dCons (dVar 4) (dCons (dVar 5) dNil))))))) (dDrop (dML rdAppend (dVar 8) (dCons (dTup (dCons (dVar 9) (dCons (dVar 10) (dCons (dOp rdIx (dVar 7) (dC (.int 0))) dNil)))) dNil))) dNext)))
  (dRet (dB rdTuple (dCons (dVar 8) dNil)))))))
def W_read_entries : DSp := fnW ["stand", "writer", "column", "entries", "low", "high", "by_root", "version", "found", "key", "row", "root"] ["stand", "writer", "column", "entries", "low", "high"] t_read_entries
theorem f_read_entries {P : Program} {w : World} {K : PySem.W.Frag} {mg : Str → Option Value} {base : Heap} {T : List (Addr × Str)} {k : Nat} {f : Addr} {fd : FuncData} (F : Fun K "read_entries" "read_entries" s_read_entries f fd) (c_is_between : FnC P w K mg base T k "is_between" ["key", "low", "high"] W_is_between) (c_sees : FnC P w K mg base T k "sees" ["stand", "version", "writer"] W_sees) (g_tuple : mg "tuple" = none) (g_sorted : mg "sorted" = none) (g_set : mg "set" = none) :
    FnG P w K mg base T (k + 1) f fd ["stand", "writer", "column", "entries", "low", "high"] W_read_entries := by
  have c_ := sc_read_entries
  refine fn_g (k := k) F sc_read_entries fun cdv A outer s H E' Γ Ed hcd hΓ hr hg tk => ?_
  have r1_ := room1 hr
  have r64_ := room64 hr
  have r65_ := room65 hr
  exact (dss_cons (ds_set 6 c_.nd de_newQ)
    (dss_cons (ds_for (passes_of rfl) (by rfl) (dw_seq (de_ix r1_ (dv 0) de_int)) (dg_nm 7 c_.nd) (dss_one (ds_if (dt_val (de_fn hΓ c_sees hr hg tk (da_cons (dv 0) (da_cons (dv 7) (da_cons (dv 1) da_nil))))) (dss_one (ds_setQ r1_ (dv 7) (dv 6) (de_tup (da_cons (de_ix r1_ (dv 7) de_int) (da_cons (de_ix r1_ (dv 7) de_int) da_nil))))) dss_nil)))
    (dss_cons (ds_set 8 c_.nd (DF.toOwn (df_lst da_nil)))
    (dss_cons (ds_for (passes_of rfl) (by rfl) (dw_seq (DF.toDE (df_sortSetU (by rfl) r64_ (by rfl) g_sorted (by rfl) g_set (dv 3)))) (dg_tup (by rfl) (dgs_cons (dg_nm 9 c_.nd) (dgs_cons (dg_nm 10 c_.nd) (dgs_cons (dg_nm 11 c_.nd) dgs_nil)))) (dss_cons (ds_set 7 c_.nd (de_getQ r1_ (dv 6) (de_tup (da_cons (dv 10) (da_cons (dv 11) da_nil))) m1_of))
    (dss_one (ds_if (DW.dt (dw_and (dt_cmp op_notN lr_notN (dv 7) de_non) (dw_and (dt_cmp (op_eqA r64_) lr_eq (de_ix r1_ (de_ix r1_ (dv 7) de_int) (dv 2)) (dv 9)) (dw_and1 (dt_val (de_fn hΓ c_is_between hr hg takes_no (da_cons (dv 9) (da_cons (dv 4) (da_cons (dv 5) da_nil))))))))) (dss_one (ds_expr (de_mL PySem.F.plainAttrs_list PySem.F.slot_list_append PySem.F.type_list_append mt_append lm_append (dv 8) (da_cons (de_tup (da_cons (dv 9) (da_cons (dv 10) (da_cons (de_ix r1_ (dv 7) de_int) da_nil)))) da_nil)))) dss_nil))))
    (dss_one (ds_ret (de_callTy call_tuple_of la_tuple (by rfl) g_tuple (by decide +kernel) (da_cons (dv 8) da_nil))))))))
/-! ### lacking_of -/
abbrev s_lacking_of : Stmt := top 13
theorem sc_lacking_of : FnScope ["stand", "writer", "column", "entries", "known", "version", "entry"] ["stand", "writer", "column", "entries"] (defScope s_lacking_of) := ⟨rfl, rfl, rfl, by decide +kernel, rfl, by decide +kernel, by decide +kernel⟩
def t_lacking_of (E : DXS) : DTS := (dSeq (dAsg (dDcQ (dVar 3)) (.nm 4))
  (dSeq (dFor (wSeq (dOp rdIx (dVar 0) (dC (.int 1)))) (.nm 5) (dIfS (dAnd (dTest (dCall E W_sees (dCons (dVar 0) (dCons (dVar 5) (dCons (dVar 1) dNil))))) (dTest (dOp rdNotInQ (dCall noX W_entry_of (dCons (dVar 5) (dCons (dVar 2) dNil))) (dVar 4)))) (dRet (dOp rdIx (dVar 5) (dC (.int 0)))) dNext))
  (dRet (dC .none))))
def W_lacking_of : DSp := fnW ["stand", "writer", "column", "entries", "known", "version", "entry"] ["stand", "writer", "column", "entries"] t_lacking_of
theorem f_lacking_of {P : Program} {w : World} {K : PySem.W.Frag} {mg : Str → Option Value} {base : Heap} {T : List (Addr × Str)} {k : Nat} {f : Addr} {fd : FuncData} (F : Fun K "lacking_of" "lacking_of" s_lacking_of f fd) (c_sees : FnC P w K mg base T k "sees" ["stand", "version", "writer"] W_sees) (c_entry_of : FnC P w K mg base T k "entry_of" ["version", "column"] W_entry_of) :
    FnG P w K mg base T (k + 1) f fd ["stand", "writer", "column", "entries"] W_lacking_of := by
  have c_ := sc_lacking_of
  refine fn_g (k := k) F sc_lacking_of fun cdv A outer s H E' Γ Ed hcd hΓ hr hg tk => ?_
  have r1_ := room1 hr
  have r64_ := room64 hr
  have r65_ := room65 hr
  exact (dss_cons (ds_dcQ 4 r1_ (by rfl) c_.nd (dv 3))
    (dss_cons (ds_for (passes_of rfl) (by rfl) (dw_seq (de_ix r1_ (dv 0) de_int)) (dg_nm 5 c_.nd) (dss_one (ds_if (DW.dt (dw_and (dt_val (de_fn hΓ c_sees hr hg tk (da_cons (dv 0) (da_cons (dv 5) (da_cons (dv 1) da_nil))))) (dw_and1 (dt_cmp (op_notInQ r1_) lr_notInQ (de_fn hΓ c_entry_of hr hg takes_no (da_cons (dv 5) (da_cons (dv 2) da_nil))) (dv 4))))) (dss_one (ds_ret (de_ix r1_ (dv 5) de_int))) dss_nil)))
    (dss_one (ds_ret de_non))))
/-! ### _law_feed -/
abbrev s__law_feed : Stmt := top 15
theorem sc__law_feed : FnScope ["_law_script"] ["_law_script"] (defScope s__law_feed) := ⟨rfl, rfl, rfl, by decide +kernel, rfl, by decide +kernel, by decide +kernel⟩
def t__law_feed : DTS := (dRet (dDisp (((dC (.str "cells")), (dL (fB rfList (dCons (dSl (dVar 0) dNoPart (dPart (dC (.int 63)))) dNil)))) :: (((dC (.str "at")), (dC (.int 0))) :: (((dC (.str "left")), (dC (.int 0))) :: (((dC (.str "turn")), (dC (.int 0))) :: []))))))
def W__law_feed : DSp := fnW ["_law_script"] ["_law_script"] fun _ => t__law_feed
theorem f__law_feed {P : Program} {w : World} {K : PySem.W.Frag} {mg : Str → Option Value} {base : Heap} {T : List (Addr × Str)} {k : Nat} {f : Addr} {fd : FuncData} (F : Fun K "_law_feed" "_law_feed" s__law_feed f fd) (g_list : mg "list" = none) :
    FnG P w K mg base T (k + 1) f fd ["_law_script"] W__law_feed := by
  have c_ := sc__law_feed
  refine fn_g (k := k) F sc__law_feed fun cdv A outer s H E' Γ Ed hcd hΓ hr hg tk => ?_
  have r1_ := room1 hr
  have r64_ := room64 hr
  have r65_ := room65 hr
  exact (dss_one (ds_ret (de_disp (dps_cons0 de_str (DF.toDE (df_callTy call_list_of lf_list (by rfl) g_list (by decide +kernel) (da_cons (de_sl (dv 0) do_none (do_some de_int)) da_nil))) (dps_cons0 de_str de_int (dps_cons0 de_str de_int (dps_cons0 de_str de_int dps_nil0)))))))
/-! ### _law_draw -/
abbrev s__law_draw : Stmt := top 16
theorem sc__law_draw : FnScope ["_law_feed_here", "_law_many", "_law_turn", "_law_at", "_law_cell", "_law_mixed", "_law_found"] ["_law_feed_here", "_law_many"] (defScope s__law_draw) := ⟨rfl, rfl, rfl, by decide +kernel, rfl, by decide +kernel, by decide +kernel⟩
def t__law_draw : DTS := (dSeq (dAsg (dOp rdAdd (dOp rdIx (dVar 0) (dC (.str "turn"))) (dC (.int 1))) (.nm 2))
  (dSeq (dSetIx (dVar 2) (dVar 0) (dC (.str "turn")))
  (dSeq (dIfS (dTest (dOp rdGt (dOp rdIx (dVar 0) (dC (.str "left"))) (dC (.int 0)))) (dSeq (dAsg (dOp rdMod (dOp rdIx (dVar 0) (dC (.str "left"))) (dVar 1)) (.nm 6))
  (dSeq (dSetIx (dOp rdDiv (dOp rdIx (dVar 0) (dC (.str "left"))) (dVar 1)) (dVar 0) (dC (.str "left")))
  (dRet (dVar 6)))) dNext)
  (dSeq (dAsg (dOp rdIx (dVar 0) (dC (.str "at"))) (.nm 3))
  (dSeq (dSetIx (dOp rdAdd (dVar 3) (dC (.int 1))) (dVar 0) (dC (.str "at")))
  (dSeq (dAsg (dC (.int 0)) (.nm 4))
  (dSeq (dIfS (dTest (dOp rdNe (dOp rdIx (dVar 0) (dC (.str "cells"))) (dL (fLst dNil)))) (dAsg (dOp rdIx (dOp rdIx (dVar 0) (dC (.str "cells"))) (dOp rdMod (dVar 3) (dB rdLen (dCons (dOp rdIx (dVar 0) (dC (.str "cells"))) dNil)))) (.nm 4)) dNext)
  (dSeq (dIfS (dAnd (dTest (dOp rdGe (dVar 4) (dOp rdPow (dC (.int 10)) (dC (.int 18))))) (dTest (dOp rdLt (dVar 3) (dB rdLen (dCons (dOp rdIx (dVar 0) (dC (.str "cells"))) dNil))))) (dSeq (dSetIx (dOp rdDiv (dVar 4) (dVar 1)) (dVar 0) (dC (.str "left")))
  (dRet (dOp rdMod (dVar 4) (dVar 1)))) dNext)
  (dSeq (dAsg (dOp rdMod (dOp rdPow (dOp rdAdd (dOp rdAdd (dOp rdMod (dVar 4) (dC (.int 2147483629))) (dOp rdMul (dC (.int 7919)) (dVar 2))) (dC (.int 1))) (dC (.int 5))) (dC (.int 2147483647))) (.nm 5))
  (dSeq (dAsg (dOp rdMod (dOp rdPow (dOp rdAdd (dVar 5) (dOp rdMul (dC (.int 104729)) (dVar 2))) (dC (.int 5))) (dC (.int 2147483587))) (.nm 5))
  (dRet (dOp rdMod (dOp rdDiv (dVar 5) (dC (.int 64))) (dVar 1)))))))))))))
def W__law_draw : DSp := fnW ["_law_feed_here", "_law_many", "_law_turn", "_law_at", "_law_cell", "_law_mixed", "_law_found"] ["_law_feed_here", "_law_many"] fun _ => t__law_draw
theorem f__law_draw {P : Program} {w : World} {K : PySem.W.Frag} {mg : Str → Option Value} {base : Heap} {T : List (Addr × Str)} {k : Nat} {f : Addr} {fd : FuncData} (F : Fun K "_law_draw" "_law_draw" s__law_draw f fd) (g_len : mg "len" = none) :
    FnG P w K mg base T (k + 1) f fd ["_law_feed_here", "_law_many"] W__law_draw := by
  have c_ := sc__law_draw
  refine fn_g (k := k) F sc__law_draw fun cdv A outer s H E' Γ Ed hcd hΓ hr hg tk => ?_
  have r1_ := room1 hr
  have r64_ := room64 hr
  have r65_ := room65 hr
  exact (dss_cons (ds_set 2 c_.nd (de_bin op_addAll lr_add (de_ix r1_ (dv 0) de_str) de_int))
    (dss_cons (ds_setIx r1_ (dv 2) (dv 0) de_str)
    (dss_cons (ds_if (dt_cmp (op_gtG r1_) lr_gt (de_ix r1_ (dv 0) de_str) de_int) (dss_cons (ds_set 6 c_.nd (de_bin op_modN lr_mod (de_ix r1_ (dv 0) de_str) (dv 1)))
    (dss_cons (ds_setIx r1_ (de_bin op_fdivN lr_div (de_ix r1_ (dv 0) de_str) (dv 1)) (dv 0) de_str)
    (dss_one (ds_ret (dv 6))))) dss_nil)
    (dss_cons (ds_set 3 c_.nd (de_ix r1_ (dv 0) de_str))
    (dss_cons (ds_setIx r1_ (de_bin op_addAll lr_add (dv 3) de_int) (dv 0) de_str)
    (dss_cons (ds_set 4 c_.nd de_int)
    (dss_cons (ds_if (dt_cmp (op_neA r64_) lr_ne (de_ix r1_ (dv 0) de_str) (DF.toDE (df_lst da_nil))) (dss_one (ds_set 4 c_.nd (de_ix r1_ (de_ix r1_ (dv 0) de_str) (de_bin op_modN lr_mod (dv 3) (de_callB cr_len la_len (by rfl) g_len (by decide +kernel) (da_cons (de_ix r1_ (dv 0) de_str) da_nil)))))) dss_nil)
    (dss_cons (ds_if (DW.dt (dw_and (dt_cmp (op_geG r1_) lr_ge (dv 4) (de_bin op_pow lr_pow de_int de_int)) (dw_and1 (dt_cmp (op_ltG r1_) lr_lt (dv 3) (de_callB cr_len la_len (by rfl) g_len (by decide +kernel) (da_cons (de_ix r1_ (dv 0) de_str) da_nil)))))) (dss_cons (ds_setIx r1_ (de_bin op_fdivN lr_div (dv 4) (dv 1)) (dv 0) de_str)
    (dss_one (ds_ret (de_bin op_modN lr_mod (dv 4) (dv 1))))) dss_nil)
    (dss_cons (ds_set 5 c_.nd (de_bin op_modN lr_mod (de_bin op_pow lr_pow (de_bin op_addAll lr_add (de_bin op_addAll lr_add (de_bin op_modN lr_mod (dv 4) de_int) (de_bin op_mulAll lr_mul de_int (dv 2))) de_int) de_int) de_int))
    (dss_cons (ds_set 5 c_.nd (de_bin op_modN lr_mod (de_bin op_pow lr_pow (de_bin op_addAll lr_add (dv 5) (de_bin op_mulAll lr_mul de_int (dv 2))) de_int) de_int))
    (dss_one (ds_ret (de_bin op_modN lr_mod (de_bin op_fdivN lr_div (dv 5) de_int) (dv 1))))))))))))))
/-! ### _law_is_by -/
abbrev s__law_is_by : Stmt := top 17
theorem sc__law_is_by : FnScope ["_law_fates", "_law_other", "_law_view"] ["_law_fates", "_law_other", "_law_view"] (defScope s__law_is_by) := ⟨rfl, rfl, rfl, by decide +kernel, rfl, by decide +kernel, by decide +kernel⟩
def t__law_is_by : DTS := (dRet (dAndV (dOp rdNotN (dVar 1) (dC .none)) (dAndV (dOp rdEq (dOp rdIx (dOp rdIx (dVar 0) (dVar 1)) (dC (.int 0))) (dC (.str "done"))) (dOp rdLe (dOp rdIx (dOp rdIx (dVar 0) (dVar 1)) (dC (.int 1))) (dVar 2)))))
def W__law_is_by : DSp := fnW ["_law_fates", "_law_other", "_law_view"] ["_law_fates", "_law_other", "_law_view"] fun _ => t__law_is_by
theorem f__law_is_by {P : Program} {w : World} {K : PySem.W.Frag} {mg : Str → Option Value} {base : Heap} {T : List (Addr × Str)} {k : Nat} {f : Addr} {fd : FuncData} (F : Fun K "_law_is_by" "_law_is_by" s__law_is_by f fd) :
    FnG P w K mg base T (k + 1) f fd ["_law_fates", "_law_other", "_law_view"] W__law_is_by := by
  have c_ := sc__law_is_by
  refine fn_g (k := k) F sc__law_is_by fun cdv A outer s H E' Γ Ed hcd hΓ hr hg tk => ?_
  have r1_ := room1 hr
  have r64_ := room64 hr
  have r65_ := room65 hr
  exact (dss_one (ds_ret (de_and (de_cmp op_notN lr_notN (dv 1) de_non) (de_and (de_cmp (op_eqA r64_) lr_eq (de_ix r1_ (de_ix r1_ (dv 0) (dv 1)) de_int) de_str) (de_one (de_cmp (op_leG r1_) lr_le (de_ix r1_ (de_ix r1_ (dv 0) (dv 1)) de_int) (dv 2)))))))
/-! ### _law_sees -/
abbrev s__law_sees : Stmt := top 18
theorem sc__law_sees : FnScope ["_law_stand_here", "_law_version", "_law_writer", "_law_fates", "_law_view"] ["_law_stand_here", "_law_version", "_law_writer"] (defScope s__law_sees) := ⟨rfl, rfl, rfl, by decide +kernel, rfl, by decide +kernel, by decide +kernel⟩
def t__law_sees : DTS := (dSeq (dPar 3 4 (dCons (dOp rdIx (dVar 0) (dC (.int 2))) (dCons (dOp rdIx (dOp rdIx (dVar 0) (dC (.int 3))) (dVar 2)) dNil)))
  (dSeq (dIfS (dAnd (dTest (dOp rdNe (dOp rdIx (dVar 1) (dC (.int 3))) (dVar 2))) (dNot (dTest (dCall noX W__law_is_by (dCons (dVar 3) (dCons (dOp rdIx (dVar 1) (dC (.int 3))) (dCons (dVar 4) dNil))))))) (dRet (dC (.bool false))) dNext)
  (dRet (dAndV (dOp rdNe (dOp rdIx (dVar 1) (dC (.int 4))) (dVar 2)) (dNotV (dCall noX W__law_is_by (dCons (dVar 3) (dCons (dOp rdIx (dVar 1) (dC (.int 4))) (dCons (dVar 4) dNil)))))))))
def W__law_sees : DSp := fnW ["_law_stand_here", "_law_version", "_law_writer", "_law_fates", "_law_view"] ["_law_stand_here", "_law_version", "_law_writer"] fun _ => t__law_sees
theorem f__law_sees {P : Program} {w : World} {K : PySem.W.Frag} {mg : Str → Option Value} {base : Heap} {T : List (Addr × Str)} {k : Nat} {f : Addr} {fd : FuncData} (F : Fun K "_law_sees" "_law_sees" s__law_sees f fd) (c__law_is_by : FnC P w K mg base T k "_law_is_by" ["_law_fates", "_law_other", "_law_view"] W__law_is_by) :
    FnG P w K mg base T (k + 1) f fd ["_law_stand_here", "_law_version", "_law_writer"] W__law_sees := by
  have c_ := sc__law_sees
  refine fn_g (k := k) F sc__law_sees fun cdv A outer s H E' Γ Ed hcd hΓ hr hg tk => ?_
  have r1_ := room1 hr
  have r64_ := room64 hr
  have r65_ := room65 hr
  exact (dss_cons (ds_par (by rfl) c_.nd (da_cons (de_ix r1_ (dv 0) de_int) (da_cons (de_ix r1_ (de_ix r1_ (dv 0) de_int) (dv 2)) da_nil)))
    (dss_cons (ds_if (DW.dt (dw_and (dt_cmp (op_neA r64_) lr_ne (de_ix r1_ (dv 1) de_int) (dv 2)) (dw_and1 (dt_not (dt_val (de_fn hΓ c__law_is_by hr hg takes_no (da_cons (dv 3) (da_cons (de_ix r1_ (dv 1) de_int) (da_cons (dv 4) da_nil))))))))) (dss_one (ds_ret de_bl)) dss_nil)
    (dss_one (ds_ret (de_and (de_cmp (op_neA r64_) lr_ne (de_ix r1_ (dv 1) de_int) (dv 2)) (de_one (de_not (de_fn hΓ c__law_is_by hr hg takes_no (da_cons (dv 3) (da_cons (de_ix r1_ (dv 1) de_int) (da_cons (dv 4) da_nil)))))))))))
/-! ### _law_many_done -/
abbrev s__law_many_done : Stmt := top 19
theorem sc__law_many_done : FnScope ["_law_fates", "_law_fate"] ["_law_fates"] (defScope s__law_many_done) := ⟨rfl, rfl, rfl, by decide +kernel, rfl, by decide +kernel, by decide +kernel⟩
def t__law_many_done : DTS := (dRet (dB rdLen (dCons (dL (fLcG (dVar 0) (.nm 1) (dTest (dOp rdEq (dOp rdIx (dVar 1) (dC (.int 0))) (dC (.str "done")))) (dVar 1) [1])) dNil)))
def W__law_many_done : DSp := fnW ["_law_fates", "_law_fate"] ["_law_fates"] fun _ => t__law_many_done
theorem f__law_many_done {P : Program} {w : World} {K : PySem.W.Frag} {mg : Str → Option Value} {base : Heap} {T : List (Addr × Str)} {k : Nat} {f : Addr} {fd : FuncData} (F : Fun K "_law_many_done" "_law_many_done" s__law_many_done f fd) (g_len : mg "len" = none) :
    FnG P w K mg base T (k + 1) f fd ["_law_fates"] W__law_many_done := by
  have c_ := sc__law_many_done
  refine fn_g (k := k) F sc__law_many_done fun cdv A outer s H E' Γ Ed hcd hΓ hr hg tk => ?_
  have r1_ := room1 hr
  have r64_ := room64 hr
  have r65_ := room65 hr
  exact (dss_one (ds_ret (de_callB cr_len la_len (by rfl) g_len (by decide +kernel) (da_cons (DF.toDE (df_lcG (by rfl) c_.nd (dv 0) (own := [("_law_fate", 1)]) (show BlkOk ["_law_fates", "_law_fate"] (defScope s__law_many_done) _ _ from blkOk_by (by decide +kernel)) (fun _ _ _ _ _ => (dg_nm 1 c_.nd)) (by decide) (fun Γ' hΓ1 _ _ _ _ _ => have hΓ := hΓ1.trans hΓ; (dts_one (dt_cmp (op_eqA r64_) lr_eq (de_ix r1_ (dv 1) de_int) de_str))) (fun Γ' hΓ1 _ _ _ _ _ => have hΓ := hΓ1.trans hΓ; (dv 1)))) da_nil))))
/-! ### _law_written -/
abbrev s__law_written : Stmt := top 20
theorem sc__law_written : FnScope ["_law_feed_here", "_law_wide", "_law_some", "_law_fates", "_law_views", "_law_writer", "_law_way", "_law_values", "_law_stand_here", "_law_free", "_law_place", "_law_at", "_law_elder", "_law_keeps", "_law_root", "_law_k", "_law_version"] ["_law_feed_here", "_law_wide", "_law_some", "_law_fates", "_law_views", "_law_writer", "_law_way"] (defScope s__law_written) := ⟨rfl, rfl, rfl, by decide +kernel, rfl, by decide +kernel, by decide +kernel⟩
def t__law_written : DTS := (dSeq (dAsg (dB rdTuple (dCons (dL (fLc (wRg1 (dVar 1)) (.nm 15) dYes (dOp rdIx (dL (fLst (dCons (dC (.int 0)) (dCons (dC (.int 1)) (dCons (dC (.int 2)) (dCons (dC (.int 5)) (dCons (dNeg (dC (.int 999))) (dCons (dC (.int 999)) dNil)))))))) (dCall noX W__law_draw (dCons (dVar 0) (dCons (dC (.int 6)) dNil)))) [15])) dNil)) (.nm 7))
  (dSeq (dAsg (dTupO (dCons (dVar 1) (dCons (dVar 2) (dCons (dVar 3) (dCons (dVar 4) dNil))))) (.nm 8))
  (dSeq (dAsg (dL (fLc (wRg1 (dB rdLen (dCons (dVar 2) dNil))) (.nm 15) (dTest (dCall noX W__law_sees (dCons (dVar 8) (dCons (dOp rdIx (dVar 2) (dVar 15)) (dCons (dVar 5) dNil))))) (dVar 15) [15])) (.nm 9))
  (dSeq (dAsg (dL (fLc (wSeq (dVar 9)) (.nm 15) (dOr (dTest (dOp rdIsN (dOp rdIx (dOp rdIx (dVar 2) (dVar 15)) (dC (.int 4))) (dC .none))) (dTest (dOp rdEq (dOp rdIx (dVar 3) (dOp rdIx (dOp rdIx (dVar 2) (dVar 15)) (dC (.int 4)))) (dTup (dCons (dC (.str "gone")) dNil))))) (dVar 15) [15])) (.nm 9))
  (dSeq (dAsg (dB rdLen (dCons (dVar 2) dNil)) (.nm 10))
  (dSeq (dIfS (dOr (dTest (dOp rdLt (dVar 6) (dC (.int 5)))) (dTest (dOp rdEq (dVar 9) (dL (fLst dNil))))) (dSeq (dDrop (dML rdAppend (dVar 2) (dCons (dTup (dCons (dVar 10) (dCons (dOp rdAdd (dB rdMaxL (dCons (dOp rdAdd (dL (fLcG (dVar 2) (.nm 16) dYes (dOp rdIx (dVar 16) (dC (.int 1))) [16])) (dL (fLst (dCons (dNeg (dC (.int 1))) dNil)))) dNil)) (dC (.int 1))) (dCons (dVar 7) (dCons (dVar 5) (dCons (dC .none) (dCons (dVar 10) dNil))))))) dNil)))
  dRetN) dNext)
  (dSeq (dAsg (dOp rdIx (dVar 9) (dCall noX W__law_draw (dCons (dVar 0) (dCons (dB rdLen (dCons (dVar 9) dNil)) dNil)))) (.nm 11))
  (dSeq (dAsg (dOp rdIx (dVar 2) (dVar 11)) (.nm 12))
  (dSeq (dSetIx (dOp rdAdd (dSl (dVar 12) dNoPart (dPart (dC (.int 4)))) (dTup (dCons (dVar 5) (dCons (dOp rdIx (dVar 12) (dC (.int 5))) dNil)))) (dVar 2) (dVar 11))
  (dIfS (dTest (dOp rdLt (dVar 6) (dC (.int 9)))) (dSeq (dAsg (dL (fLc (wRg1 (dVar 1)) (.nm 15) dYes (dIf (dTest (dOp rdEq (dCall noX W__law_draw (dCons (dVar 0) (dCons (dC (.int 2)) dNil))) (dC (.int 0)))) (dOp rdIx (dOp rdIx (dVar 12) (dC (.int 2))) (dVar 15)) (dOp rdIx (dVar 7) (dVar 15))) [15])) (.nm 13))
  (dSeq (dAsg (dOp rdIx (dL (fLst (dCons (dVar 10) (dCons (dOp rdIx (dVar 12) (dC (.int 5))) dNil)))) (dCall noX W__law_draw (dCons (dVar 0) (dCons (dC (.int 2)) dNil)))) (.nm 14))
  (dDrop (dML rdAppend (dVar 2) (dCons (dTup (dCons (dVar 10) (dCons (dOp rdIx (dVar 12) (dC (.int 1))) (dCons (dB rdTuple (dCons (dVar 13) dNil)) (dCons (dVar 5) (dCons (dC .none) (dCons (dVar 14) dNil))))))) dNil))))) dNext))))))))))
def W__law_written : DSp := fnW ["_law_feed_here", "_law_wide", "_law_some", "_law_fates", "_law_views", "_law_writer", "_law_way", "_law_values", "_law_stand_here", "_law_free", "_law_place", "_law_at", "_law_elder", "_law_keeps", "_law_root", "_law_k", "_law_version"] ["_law_feed_here", "_law_wide", "_law_some", "_law_fates", "_law_views", "_law_writer", "_law_way"] fun _ => t__law_written
theorem f__law_written {P : Program} {w : World} {K : PySem.W.Frag} {mg : Str → Option Value} {base : Heap} {T : List (Addr × Str)} {k : Nat} {f : Addr} {fd : FuncData} (F : Fun K "_law_written" "_law_written" s__law_written f fd) (c__law_draw : FnC P w K mg base T k "_law_draw" ["_law_feed_here", "_law_many"] W__law_draw) (c__law_sees : FnC P w K mg base T k "_law_sees" ["_law_stand_here", "_law_version", "_law_writer"] W__law_sees) (g_tuple : mg "tuple" = none) (g_range : mg "range" = none) (g_len : mg "len" = none) (g_max : mg "max" = none) :
    FnG P w K mg base T (k + 1) f fd ["_law_feed_here", "_law_wide", "_law_some", "_law_fates", "_law_views", "_law_writer", "_law_way"] W__law_written := by
  have c_ := sc__law_written
  refine fn_g (k := k) F sc__law_written fun cdv A outer s H E' Γ Ed hcd hΓ hr hg tk => ?_
  have r1_ := room1 hr
  have r64_ := room64 hr
  have r65_ := room65 hr
  exact (dss_cons (ds_set 7 c_.nd (de_callTy call_tuple_of la_tuple (by rfl) g_tuple (by decide +kernel) (da_cons (DF.toDE (df_lc (by rfl) c_.nd (dw_rg1 (by rfl) g_range (dv 1)) (own := [("_law_k", 15)]) (show BlkOk ["_law_feed_here", "_law_wide", "_law_some", "_law_fates", "_law_views", "_law_writer", "_law_way", "_law_values", "_law_stand_here", "_law_free", "_law_place", "_law_at", "_law_elder", "_law_keeps", "_law_root", "_law_k", "_law_version"] (defScope s__law_written) _ _ from blkOk_by (by decide +kernel)) (fun _ _ _ _ _ => (dg_nm 15 c_.nd)) (by decide) (fun Γ' hΓ1 _ _ _ _ _ => have hΓ := hΓ1.trans hΓ; dts_nil) (fun Γ' hΓ1 _ _ _ _ _ => have hΓ := hΓ1.trans hΓ; (de_ix r1_ (DF.toDE (df_lst (da_cons de_int (da_cons de_int (da_cons de_int (da_cons de_int (da_cons (de_neg de_int) (da_cons de_int da_nil)))))))) (de_fn hΓ c__law_draw hr hg takes_no (da_cons (dv 0) (da_cons de_int da_nil))))))) da_nil)))
    (dss_cons (ds_set 8 c_.nd (de_tupO (da_cons (dv 1) (da_cons (dv 2) (da_cons (dv 3) (da_cons (dv 4) da_nil))))))
    (dss_cons (ds_lc 9 (by rfl) c_.nd (dw_rg1 (by rfl) g_range (de_callB cr_len la_len (by rfl) g_len (by decide +kernel) (da_cons (dv 2) da_nil))) (own := [("_law_k", 15)]) (show BlkOk ["_law_feed_here", "_law_wide", "_law_some", "_law_fates", "_law_views", "_law_writer", "_law_way", "_law_values", "_law_stand_here", "_law_free", "_law_place", "_law_at", "_law_elder", "_law_keeps", "_law_root", "_law_k", "_law_version"] (defScope s__law_written) _ _ from blkOk_by (by decide +kernel)) (fun _ _ _ _ _ => (dg_nm 15 c_.nd)) (by decide) (fun Γ' hΓ1 _ _ _ _ _ => have hΓ := hΓ1.trans hΓ; (dts_one (dt_val (de_fn hΓ c__law_sees hr hg takes_no (da_cons (dv 8) (da_cons (de_ix r1_ (dv 2) (dv 15)) (da_cons (dv 5) da_nil))))))) (fun Γ' hΓ1 _ _ _ _ _ => have hΓ := hΓ1.trans hΓ; (dv 15)))
    (dss_cons (ds_lc 9 (by rfl) c_.nd (dw_seq (dv 9)) (own := [("_law_k", 15)]) (show BlkOk ["_law_feed_here", "_law_wide", "_law_some", "_law_fates", "_law_views", "_law_writer", "_law_way", "_law_values", "_law_stand_here", "_law_free", "_law_place", "_law_at", "_law_elder", "_law_keeps", "_law_root", "_law_k", "_law_version"] (defScope s__law_written) _ _ from blkOk_by (by decide +kernel)) (fun _ _ _ _ _ => (dg_nm 15 c_.nd)) (by decide) (fun Γ' hΓ1 _ _ _ _ _ => have hΓ := hΓ1.trans hΓ; (dts_one (DW.dt (dw_or (dt_cmp op_isN lr_isN (de_ix r1_ (de_ix r1_ (dv 2) (dv 15)) de_int) de_non) (dw_or1 (dt_cmp (op_eqA r64_) lr_eq (de_ix r1_ (dv 3) (de_ix r1_ (de_ix r1_ (dv 2) (dv 15)) de_int)) (de_tup (da_cons de_str da_nil)))))))) (fun Γ' hΓ1 _ _ _ _ _ => have hΓ := hΓ1.trans hΓ; (dv 15)))
    (dss_cons (ds_set 10 c_.nd (de_callB cr_len la_len (by rfl) g_len (by decide +kernel) (da_cons (dv 2) da_nil)))
    (dss_cons (ds_if (DW.dt (dw_or (dt_cmp (op_ltG r1_) lr_lt (dv 6) de_int) (dw_or1 (dt_cmp (op_eqA r64_) lr_eq (dv 9) (DF.toDE (df_lst da_nil)))))) (dss_cons (ds_expr (de_mL PySem.F.plainAttrs_list PySem.F.slot_list_append PySem.F.type_list_append mt_append lm_append (dv 2) (da_cons (de_tup (da_cons (dv 10) (da_cons (de_bin op_addAll lr_add (de_callB (cr_max (by rfl)) la_maxL (by rfl) g_max (by decide +kernel) (da_cons (de_bin op_addAll lr_add (DF.toDE (df_lcG (by rfl) c_.nd (dv 2) (own := [("_law_version", 16)]) (show BlkOk ["_law_feed_here", "_law_wide", "_law_some", "_law_fates", "_law_views", "_law_writer", "_law_way", "_law_values", "_law_stand_here", "_law_free", "_law_place", "_law_at", "_law_elder", "_law_keeps", "_law_root", "_law_k", "_law_version"] (defScope s__law_written) _ _ from blkOk_by (by decide +kernel)) (fun _ _ _ _ _ => (dg_nm 16 c_.nd)) (by decide) (fun Γ' hΓ1 _ _ _ _ _ => have hΓ := hΓ1.trans hΓ; dts_nil) (fun Γ' hΓ1 _ _ _ _ _ => have hΓ := hΓ1.trans hΓ; (de_ix r1_ (dv 16) de_int)))) (DF.toDE (df_lst (da_cons (de_neg de_int) da_nil)))) da_nil)) de_int) (da_cons (dv 7) (da_cons (dv 5) (da_cons de_non (da_cons (dv 10) da_nil))))))) da_nil)))
    (dss_one ds_retN)) dss_nil)
    (dss_cons (ds_set 11 c_.nd (de_ix r1_ (dv 9) (de_fn hΓ c__law_draw hr hg takes_no (da_cons (dv 0) (da_cons (de_callB cr_len la_len (by rfl) g_len (by decide +kernel) (da_cons (dv 9) da_nil)) da_nil)))))
    (dss_cons (ds_set 12 c_.nd (de_ix r1_ (dv 2) (dv 11)))
    (dss_cons (ds_setIx r1_ (de_bin op_addAll lr_add (de_sl (dv 12) do_none (do_some de_int)) (de_tup (da_cons (dv 5) (da_cons (de_ix r1_ (dv 12) de_int) da_nil)))) (dv 2) (dv 11))
    (dss_one (ds_if (dt_cmp (op_ltG r1_) lr_lt (dv 6) de_int) (dss_cons (ds_lc 13 (by rfl) c_.nd (dw_rg1 (by rfl) g_range (dv 1)) (own := [("_law_k", 15)]) (show BlkOk ["_law_feed_here", "_law_wide", "_law_some", "_law_fates", "_law_views", "_law_writer", "_law_way", "_law_values", "_law_stand_here", "_law_free", "_law_place", "_law_at", "_law_elder", "_law_keeps", "_law_root", "_law_k", "_law_version"] (defScope s__law_written) _ _ from blkOk_by (by decide +kernel)) (fun _ _ _ _ _ => (dg_nm 15 c_.nd)) (by decide) (fun Γ' hΓ1 _ _ _ _ _ => have hΓ := hΓ1.trans hΓ; dts_nil) (fun Γ' hΓ1 _ _ _ _ _ => have hΓ := hΓ1.trans hΓ; (de_ifExp (dt_cmp (op_eqA r64_) lr_eq (de_fn hΓ c__law_draw hr hg takes_no (da_cons (dv 0) (da_cons de_int da_nil))) de_int) (de_ix r1_ (de_ix r1_ (dv 12) de_int) (dv 15)) (de_ix r1_ (dv 7) (dv 15)))))
    (dss_cons (ds_set 14 c_.nd (de_ix r1_ (DF.toDE (df_lst (da_cons (dv 10) (da_cons (de_ix r1_ (dv 12) de_int) da_nil)))) (de_fn hΓ c__law_draw hr hg takes_no (da_cons (dv 0) (da_cons de_int da_nil)))))
    (dss_one (ds_expr (de_mL PySem.F.plainAttrs_list PySem.F.slot_list_append PySem.F.type_list_append mt_append lm_append (dv 2) (da_cons (de_tup (da_cons (dv 10) (da_cons (de_ix r1_ (dv 12) de_int) (da_cons (de_callTy call_tuple_of la_tuple (by rfl) g_tuple (by decide +kernel) (da_cons (dv 13) da_nil)) (da_cons (dv 5) (da_cons de_non (da_cons (dv 14) da_nil))))))) da_nil)))))) dss_nil)))))))))))
/-! ### _law_stand -/
abbrev s__law_stand : Stmt := top 21
theorem sc__law_stand : FnScope ["_law_feed_here", "_law_size", "_law_turn", "_law_wide", "_law_some", "_law_fates", "_law_views", "_law_live", "_law_k", "_law_writer", "_law_way"] ["_law_feed_here", "_law_size"] (defScope s__law_stand) := ⟨rfl, rfl, rfl, by decide +kernel, rfl, by decide +kernel, by decide +kernel⟩
def t__law_stand : DTS := (dSeq (dUnp (dTupO (dCons (dOp rdAdd (dC (.int 1)) (dCall noX W__law_draw (dCons (dVar 0) (dCons (dC (.int 3)) dNil)))) (dCons (dOwn (fLst dNil)) (dCons (dOwn (fLst dNil)) (dCons (dOwn (fLst dNil)) dNil))))) [3, 4, 5, 6])
  (dSeq (dFor (wRg1 (dVar 1)) (.nm 2) (dSeq (dAsg (dL (fLc (wRg1 (dB rdLen (dCons (dVar 5) dNil))) (.nm 8) (dTest (dOp rdEq (dOp rdIx (dVar 5) (dVar 8)) (dTup (dCons (dC (.str "live")) dNil)))) (dVar 8) [8])) (.nm 7))
  (dIfS (dAnd (dTest (dOp rdLt (dB rdLen (dCons (dVar 5) dNil)) (dC (.int 20)))) (dOr (dTest (dOp rdEq (dVar 7) (dL (fLst dNil)))) (dTest (dOp rdEq (dCall noX W__law_draw (dCons (dVar 0) (dCons (dC (.int 5)) dNil))) (dC (.int 0)))))) (dSeq (dDrop (dML rdAppend (dVar 6) (dCons (dCall noX W__law_many_done (dCons (dVar 5) dNil)) dNil)))
  (dDrop (dML rdAppend (dVar 5) (dCons (dTup (dCons (dC (.str "live")) dNil)) dNil)))) (dIfS (dTest (dOp rdNe (dVar 7) (dL (fLst dNil)))) (dSeq (dPar 9 10 (dCons (dOp rdIx (dVar 7) (dCall noX W__law_draw (dCons (dVar 0) (dCons (dB rdLen (dCons (dVar 7) dNil)) dNil)))) (dCons (dCall noX W__law_draw (dCons (dVar 0) (dCons (dC (.int 12)) dNil))) dNil)))
  (dIfS (dTest (dOp rdEq (dVar 10) (dC (.int 0)))) (dSetIx (dTup (dCons (dC (.str "gone")) dNil)) (dVar 5) (dVar 9)) (dIfS (dTest (dOp rdLt (dVar 10) (dC (.int 4)))) (dSetIx (dTup (dCons (dC (.str "done")) (dCons (dOp rdAdd (dCall noX W__law_many_done (dCons (dVar 5) dNil)) (dC (.int 1))) dNil))) (dVar 5) (dVar 9)) (dIfS (dTest (dOp rdLt (dB rdLen (dCons (dVar 4) dNil)) (dC (.int 40)))) (dDrop (dCall noX W__law_written (dCons (dVar 0) (dCons (dVar 3) (dCons (dVar 4) (dCons (dVar 5) (dCons (dVar 6) (dCons (dVar 9) (dCons (dOp rdSub (dVar 10) (dC (.int 2))) dNil))))))))) dNext)))) dNext))))
  (dRet (dTup (dCons (dVar 3) (dCons (dB rdTuple (dCons (dVar 4) dNil)) (dCons (dB rdTuple (dCons (dVar 5) dNil)) (dCons (dB rdTuple (dCons (dVar 6) dNil)) dNil))))))))
def W__law_stand : DSp := fnW ["_law_feed_here", "_law_size", "_law_turn", "_law_wide", "_law_some", "_law_fates", "_law_views", "_law_live", "_law_k", "_law_writer", "_law_way"] ["_law_feed_here", "_law_size"] fun _ => t__law_stand
theorem f__law_stand {P : Program} {w : World} {K : PySem.W.Frag} {mg : Str → Option Value} {base : Heap} {T : List (Addr × Str)} {k : Nat} {f : Addr} {fd : FuncData} (F : Fun K "_law_stand" "_law_stand" s__law_stand f fd) (c__law_draw : FnC P w K mg base T k "_law_draw" ["_law_feed_here", "_law_many"] W__law_draw) (c__law_many_done : FnC P w K mg base T k "_law_many_done" ["_law_fates"] W__law_many_done) (c__law_written : FnC P w K mg base T k "_law_written" ["_law_feed_here", "_law_wide", "_law_some", "_law_fates", "_law_views", "_law_writer", "_law_way"] W__law_written) (g_tuple : mg "tuple" = none) (g_range : mg "range" = none) (g_len : mg "len" = none) :
    FnG P w K mg base T (k + 1) f fd ["_law_feed_here", "_law_size"] W__law_stand := by
  have c_ := sc__law_stand
  refine fn_g (k := k) F sc__law_stand fun cdv A outer s H E' Γ Ed hcd hΓ hr hg tk => ?_
  have r1_ := room1 hr
  have r64_ := room64 hr
  have r65_ := room65 hr
  exact (dss_cons (ds_unp (de_tupO (da_cons (de_bin op_addAll lr_add de_int (de_fn hΓ c__law_draw hr hg takes_no (da_cons (dv 0) (da_cons de_int da_nil)))) (da_cons (DF.toOwn (df_lst da_nil)) (da_cons (DF.toOwn (df_lst da_nil)) (da_cons (DF.toOwn (df_lst da_nil)) da_nil))))) (dg_tup (by rfl) (dgs_cons (dg_nm 3 c_.nd) (dgs_cons (dg_nm 4 c_.nd) (dgs_cons (dg_nm 5 c_.nd) (dgs_cons (dg_nm 6 c_.nd) dgs_nil))))))
    (dss_cons (ds_for (passes_of rfl) (by rfl) (dw_rg1 (by rfl) g_range (dv 1)) (dg_nm 2 c_.nd) (dss_cons (ds_lc 7 (by rfl) c_.nd (dw_rg1 (by rfl) g_range (de_callB cr_len la_len (by rfl) g_len (by decide +kernel) (da_cons (dv 5) da_nil))) (own := [("_law_k", 8)]) (show BlkOk ["_law_feed_here", "_law_size", "_law_turn", "_law_wide", "_law_some", "_law_fates", "_law_views", "_law_live", "_law_k", "_law_writer", "_law_way"] (defScope s__law_stand) _ _ from blkOk_by (by decide +kernel)) (fun _ _ _ _ _ => (dg_nm 8 c_.nd)) (by decide) (fun Γ' hΓ1 _ _ _ _ _ => have hΓ := hΓ1.trans hΓ; (dts_one (dt_cmp (op_eqA r64_) lr_eq (de_ix r1_ (dv 5) (dv 8)) (de_tup (da_cons de_str da_nil))))) (fun Γ' hΓ1 _ _ _ _ _ => have hΓ := hΓ1.trans hΓ; (dv 8)))
    (dss_one (ds_if (DW.dt (dw_and (dt_cmp (op_ltG r1_) lr_lt (de_callB cr_len la_len (by rfl) g_len (by decide +kernel) (da_cons (dv 5) da_nil)) de_int) (dw_and1 (DW.dt (dw_or (dt_cmp (op_eqA r64_) lr_eq (dv 7) (DF.toDE (df_lst da_nil))) (dw_or1 (dt_cmp (op_eqA r64_) lr_eq (de_fn hΓ c__law_draw hr hg takes_no (da_cons (dv 0) (da_cons de_int da_nil))) de_int))))))) (dss_cons (ds_expr (de_mL PySem.F.plainAttrs_list PySem.F.slot_list_append PySem.F.type_list_append mt_append lm_append (dv 6) (da_cons (de_fn hΓ c__law_many_done hr hg takes_no (da_cons (dv 5) da_nil)) da_nil)))
    (dss_one (ds_expr (de_mL PySem.F.plainAttrs_list PySem.F.slot_list_append PySem.F.type_list_append mt_append lm_append (dv 5) (da_cons (de_tup (da_cons de_str da_nil)) da_nil))))) (dss_one (ds_if (dt_cmp (op_neA r64_) lr_ne (dv 7) (DF.toDE (df_lst da_nil))) (dss_cons (ds_par (by rfl) c_.nd (da_cons (de_ix r1_ (dv 7) (de_fn hΓ c__law_draw hr hg takes_no (da_cons (dv 0) (da_cons (de_callB cr_len la_len (by rfl) g_len (by decide +kernel) (da_cons (dv 7) da_nil)) da_nil)))) (da_cons (de_fn hΓ c__law_draw hr hg takes_no (da_cons (dv 0) (da_cons de_int da_nil))) da_nil)))
    (dss_one (ds_if (dt_cmp (op_eqA r64_) lr_eq (dv 10) de_int) (dss_one (ds_setIx r1_ (de_tup (da_cons de_str da_nil)) (dv 5) (dv 9))) (dss_one (ds_if (dt_cmp (op_ltG r1_) lr_lt (dv 10) de_int) (dss_one (ds_setIx r1_ (de_tup (da_cons de_str (da_cons (de_bin op_addAll lr_add (de_fn hΓ c__law_many_done hr hg takes_no (da_cons (dv 5) da_nil)) de_int) da_nil))) (dv 5) (dv 9))) (dss_one (ds_if (dt_cmp (op_ltG r1_) lr_lt (de_callB cr_len la_len (by rfl) g_len (by decide +kernel) (da_cons (dv 4) da_nil)) de_int) (dss_one (ds_expr (de_fn hΓ c__law_written hr hg takes_no (da_cons (dv 0) (da_cons (dv 3) (da_cons (dv 4) (da_cons (dv 5) (da_cons (dv 6) (da_cons (dv 9) (da_cons (de_bin op_sub lr_sub (dv 10) de_int) da_nil)))))))))) dss_nil))))))) dss_nil))))))
    (dss_one (ds_ret (de_tup (da_cons (dv 3) (da_cons (de_callTy call_tuple_of la_tuple (by rfl) g_tuple (by decide +kernel) (da_cons (dv 4) da_nil)) (da_cons (de_callTy call_tuple_of la_tuple (by rfl) g_tuple (by decide +kernel) (da_cons (dv 5) da_nil)) (da_cons (de_callTy call_tuple_of la_tuple (by rfl) g_tuple (by decide +kernel) (da_cons (dv 6) da_nil)) da_nil)))))))))
/-! ### _law_some_stand -/
abbrev s__law_some_stand : Stmt := top 22
theorem sc__law_some_stand : FnScope ["_law_feed_here"] ["_law_feed_here"] (defScope s__law_some_stand) := ⟨rfl, rfl, rfl, by decide +kernel, rfl, by decide +kernel, by decide +kernel⟩
def t__law_some_stand : DTS := (dRet (dCall noX W__law_stand (dCons (dVar 0) (dCons (dOp rdAdd (dOp rdIx (dL (fLst (dCons (dC (.int 0)) (dCons (dC (.int 6)) (dCons (dC (.int 20)) (dCons (dC (.int 40)) dNil)))))) (dCall noX W__law_draw (dCons (dVar 0) (dCons (dC (.int 4)) dNil)))) (dCall noX W__law_draw (dCons (dVar 0) (dCons (dC (.int 12)) dNil)))) dNil))))
def W__law_some_stand : DSp := fnW ["_law_feed_here"] ["_law_feed_here"] fun _ => t__law_some_stand
theorem f__law_some_stand {P : Program} {w : World} {K : PySem.W.Frag} {mg : Str → Option Value} {base : Heap} {T : List (Addr × Str)} {k : Nat} {f : Addr} {fd : FuncData} (F : Fun K "_law_some_stand" "_law_some_stand" s__law_some_stand f fd) (c__law_stand : FnC P w K mg base T k "_law_stand" ["_law_feed_here", "_law_size"] W__law_stand) (c__law_draw : FnC P w K mg base T k "_law_draw" ["_law_feed_here", "_law_many"] W__law_draw) :
    FnG P w K mg base T (k + 1) f fd ["_law_feed_here"] W__law_some_stand := by
  have c_ := sc__law_some_stand
  refine fn_g (k := k) F sc__law_some_stand fun cdv A outer s H E' Γ Ed hcd hΓ hr hg tk => ?_
  have r1_ := room1 hr
  have r64_ := room64 hr
  have r65_ := room65 hr
  exact (dss_one (ds_ret (de_fn hΓ c__law_stand hr hg takes_no (da_cons (dv 0) (da_cons (de_bin op_addAll lr_add (de_ix r1_ (DF.toDE (df_lst (da_cons de_int (da_cons de_int (da_cons de_int (da_cons de_int da_nil)))))) (de_fn hΓ c__law_draw hr hg takes_no (da_cons (dv 0) (da_cons de_int da_nil)))) (de_fn hΓ c__law_draw hr hg takes_no (da_cons (dv 0) (da_cons de_int da_nil)))) da_nil)))))
/-! ### _law_entry -/
abbrev s__law_entry : Stmt := top 23
theorem sc__law_entry : FnScope ["_law_version", "_law_column"] ["_law_version", "_law_column"] (defScope s__law_entry) := ⟨rfl, rfl, rfl, by decide +kernel, rfl, by decide +kernel, by decide +kernel⟩
def t__law_entry : DTS := (dRet (dTup (dCons (dOp rdIx (dOp rdIx (dVar 0) (dC (.int 2))) (dVar 1)) (dCons (dOp rdIx (dVar 0) (dC (.int 1))) (dCons (dOp rdIx (dVar 0) (dC (.int 5))) dNil)))))
def W__law_entry : DSp := fnW ["_law_version", "_law_column"] ["_law_version", "_law_column"] fun _ => t__law_entry
theorem f__law_entry {P : Program} {w : World} {K : PySem.W.Frag} {mg : Str → Option Value} {base : Heap} {T : List (Addr × Str)} {k : Nat} {f : Addr} {fd : FuncData} (F : Fun K "_law_entry" "_law_entry" s__law_entry f fd) :
    FnG P w K mg base T (k + 1) f fd ["_law_version", "_law_column"] W__law_entry := by
  have c_ := sc__law_entry
  refine fn_g (k := k) F sc__law_entry fun cdv A outer s H E' Γ Ed hcd hΓ hr hg tk => ?_
  have r1_ := room1 hr
  have r64_ := room64 hr
  have r65_ := room65 hr
  exact (dss_one (ds_ret (de_tup (da_cons (de_ix r1_ (de_ix r1_ (dv 0) de_int) (dv 1)) (da_cons (de_ix r1_ (dv 0) de_int) (da_cons (de_ix r1_ (dv 0) de_int) da_nil))))))
/-! ### _law_all -/
abbrev s__law_all : Stmt := top 24
theorem sc__law_all : FnScope ["_law_stand_here", "_law_column", "_law_version"] ["_law_stand_here", "_law_column"] (defScope s__law_all) := ⟨rfl, rfl, rfl, by decide +kernel, rfl, by decide +kernel, by decide +kernel⟩
def t__law_all : DTS := (dRet (dL (fLc (wSeq (dOp rdIx (dVar 0) (dC (.int 1)))) (.nm 2) dYes (dCall noX W__law_entry (dCons (dVar 2) (dCons (dVar 1) dNil))) [2])))
def W__law_all : DSp := fnW ["_law_stand_here", "_law_column", "_law_version"] ["_law_stand_here", "_law_column"] fun _ => t__law_all
theorem f__law_all {P : Program} {w : World} {K : PySem.W.Frag} {mg : Str → Option Value} {base : Heap} {T : List (Addr × Str)} {k : Nat} {f : Addr} {fd : FuncData} (F : Fun K "_law_all" "_law_all" s__law_all f fd) (c__law_entry : FnC P w K mg base T k "_law_entry" ["_law_version", "_law_column"] W__law_entry) :
    FnG P w K mg base T (k + 1) f fd ["_law_stand_here", "_law_column"] W__law_all := by
  have c_ := sc__law_all
  refine fn_g (k := k) F sc__law_all fun cdv A outer s H E' Γ Ed hcd hΓ hr hg tk => ?_
  have r1_ := room1 hr
  have r64_ := room64 hr
  have r65_ := room65 hr
  exact (dss_one (ds_ret (DF.toDE (df_lc (by rfl) c_.nd (dw_seq (de_ix r1_ (dv 0) de_int)) (own := [("_law_version", 2)]) (show BlkOk ["_law_stand_here", "_law_column", "_law_version"] (defScope s__law_all) _ _ from blkOk_by (by decide +kernel)) (fun _ _ _ _ _ => (dg_nm 2 c_.nd)) (by decide) (fun Γ' hΓ1 _ _ _ _ _ => have hΓ := hΓ1.trans hΓ; dts_nil) (fun Γ' hΓ1 _ _ _ _ _ => have hΓ := hΓ1.trans hΓ; (de_fn hΓ c__law_entry hr hg takes_no (da_cons (dv 2) (da_cons (dv 1) da_nil))))))))
/-! ### _law_some_entries -/
abbrev s__law_some_entries : Stmt := top 25
theorem sc__law_some_entries : FnScope ["_law_feed_here", "_law_stand_here", "_law_column", "_law_entry_here", "_law_k", "_law_own", "_law_found"] ["_law_feed_here", "_law_stand_here", "_law_column"] (defScope s__law_some_entries) := ⟨rfl, rfl, rfl, by decide +kernel, rfl, by decide +kernel, by decide +kernel⟩
def t__law_some_entries : DTS := (dSeq (dPar 5 6 (dCons (dCall noX W__law_all (dCons (dVar 1) (dCons (dVar 2) dNil))) (dCons (dOwn (fLst dNil)) dNil)))
  (dSeq (dFor (wSeq (dVar 5)) (.nm 3) (dIfS (dTest (dOp rdGt (dCall noX W__law_draw (dCons (dVar 0) (dCons (dC (.int 8)) dNil))) (dC (.int 0)))) (dDrop (dML rdInsert (dVar 6) (dCons (dCall noX W__law_draw (dCons (dVar 0) (dCons (dOp rdAdd (dB rdLen (dCons (dVar 6) dNil)) (dC (.int 1))) dNil))) (dCons (dVar 3) dNil)))) dNext))
  (dSeq (dFor (wRg1 (dCall noX W__law_draw (dCons (dVar 0) (dCons (dC (.int 4)) dNil)))) (.nm 4) (dDrop (dML rdAppend (dVar 6) (dCons (dTup (dCons (dCall noX W__law_draw (dCons (dVar 0) (dCons (dC (.int 7)) dNil))) (dCons (dCall noX W__law_draw (dCons (dVar 0) (dCons (dC (.int 9)) dNil))) (dCons (dCall noX W__law_draw (dCons (dVar 0) (dCons (dC (.int 9)) dNil))) dNil)))) dNil))))
  (dRet (dB rdTuple (dCons (dOp rdAdd (dVar 6) (dSl (dVar 6) dNoPart (dPart (dCall noX W__law_draw (dCons (dVar 0) (dCons (dC (.int 3)) dNil)))))) dNil))))))
def W__law_some_entries : DSp := fnW ["_law_feed_here", "_law_stand_here", "_law_column", "_law_entry_here", "_law_k", "_law_own", "_law_found"] ["_law_feed_here", "_law_stand_here", "_law_column"] fun _ => t__law_some_entries
theorem f__law_some_entries {P : Program} {w : World} {K : PySem.W.Frag} {mg : Str → Option Value} {base : Heap} {T : List (Addr × Str)} {k : Nat} {f : Addr} {fd : FuncData} (F : Fun K "_law_some_entries" "_law_some_entries" s__law_some_entries f fd) (c__law_draw : FnC P w K mg base T k "_law_draw" ["_law_feed_here", "_law_many"] W__law_draw) (c__law_all : FnC P w K mg base T k "_law_all" ["_law_stand_here", "_law_column"] W__law_all) (g_tuple : mg "tuple" = none) (g_range : mg "range" = none) (g_len : mg "len" = none) :
    FnG P w K mg base T (k + 1) f fd ["_law_feed_here", "_law_stand_here", "_law_column"] W__law_some_entries := by
  have c_ := sc__law_some_entries
  refine fn_g (k := k) F sc__law_some_entries fun cdv A outer s H E' Γ Ed hcd hΓ hr hg tk => ?_
  have r1_ := room1 hr
  have r64_ := room64 hr
  have r65_ := room65 hr
  exact (dss_cons (ds_par (by rfl) c_.nd (da_cons (de_fn hΓ c__law_all hr hg takes_no (da_cons (dv 1) (da_cons (dv 2) da_nil))) (da_cons (DF.toOwn (df_lst da_nil)) da_nil)))
    (dss_cons (ds_for (passes_of rfl) (by rfl) (dw_seq (dv 5)) (dg_nm 3 c_.nd) (dss_one (ds_if (dt_cmp (op_gtG r1_) lr_gt (de_fn hΓ c__law_draw hr hg takes_no (da_cons (dv 0) (da_cons de_int da_nil))) de_int) (dss_one (ds_expr (de_mL PySem.F.plainAttrs_list PySem.F.slot_list_insert PySem.F.type_list_insert mt_insert lm_insert (dv 6) (da_cons (de_fn hΓ c__law_draw hr hg takes_no (da_cons (dv 0) (da_cons (de_bin op_addAll lr_add (de_callB cr_len la_len (by rfl) g_len (by decide +kernel) (da_cons (dv 6) da_nil)) de_int) da_nil))) (da_cons (dv 3) da_nil))))) dss_nil)))
    (dss_cons (ds_for (passes_of rfl) (by rfl) (dw_rg1 (by rfl) g_range (de_fn hΓ c__law_draw hr hg takes_no (da_cons (dv 0) (da_cons de_int da_nil)))) (dg_nm 4 c_.nd) (dss_one (ds_expr (de_mL PySem.F.plainAttrs_list PySem.F.slot_list_append PySem.F.type_list_append mt_append lm_append (dv 6) (da_cons (de_tup (da_cons (de_fn hΓ c__law_draw hr hg takes_no (da_cons (dv 0) (da_cons de_int da_nil))) (da_cons (de_fn hΓ c__law_draw hr hg takes_no (da_cons (dv 0) (da_cons de_int da_nil))) (da_cons (de_fn hΓ c__law_draw hr hg takes_no (da_cons (dv 0) (da_cons de_int da_nil))) da_nil)))) da_nil)))))
    (dss_one (ds_ret (de_callTy call_tuple_of la_tuple (by rfl) g_tuple (by decide +kernel) (da_cons (de_bin op_addAll lr_add (dv 6) (de_sl (dv 6) do_none (do_some (de_fn hΓ c__law_draw hr hg takes_no (da_cons (dv 0) (da_cons de_int da_nil)))))) da_nil)))))))
/-! ### _law_fits -/
abbrev s__law_fits : Stmt := top 26
theorem sc__law_fits : FnScope ["_law_mark", "_law_below", "_law_above"] ["_law_mark", "_law_below", "_law_above"] (defScope s__law_fits) := ⟨rfl, rfl, rfl, by decide +kernel, rfl, by decide +kernel, by decide +kernel⟩
def t__law_fits : DTS := (dRet (dAndV (dOrV (dOp rdIsN (dVar 1) (dC .none)) (dOp rdGe (dVar 0) (dVar 1))) (dOrV (dOp rdIsN (dVar 2) (dC .none)) (dOp rdLe (dVar 0) (dVar 2)))))
def W__law_fits : DSp := fnW ["_law_mark", "_law_below", "_law_above"] ["_law_mark", "_law_below", "_law_above"] fun _ => t__law_fits
theorem f__law_fits {P : Program} {w : World} {K : PySem.W.Frag} {mg : Str → Option Value} {base : Heap} {T : List (Addr × Str)} {k : Nat} {f : Addr} {fd : FuncData} (F : Fun K "_law_fits" "_law_fits" s__law_fits f fd) :
    FnG P w K mg base T (k + 1) f fd ["_law_mark", "_law_below", "_law_above"] W__law_fits := by
  have c_ := sc__law_fits
  refine fn_g (k := k) F sc__law_fits fun cdv A outer s H E' Γ Ed hcd hΓ hr hg tk => ?_
  have r1_ := room1 hr
  have r64_ := room64 hr
  have r65_ := room65 hr
  exact (dss_one (ds_ret (de_and (de_or (de_cmp op_isN lr_isN (dv 1) de_non) (de_one (de_cmp (op_geG r1_) lr_ge (dv 0) (dv 1)))) (de_one (de_or (de_cmp op_isN lr_isN (dv 2) de_non) (de_one (de_cmp (op_leG r1_) lr_le (dv 0) (dv 2))))))))
/-! ### _law_scan -/
abbrev s__law_scan : Stmt := top 27
theorem sc__law_scan : FnScope ["_law_stand_here", "_law_writer", "_law_column", "_law_below", "_law_above", "_law_found", "_law_version"] ["_law_stand_here", "_law_writer", "_law_column", "_law_below", "_law_above"] (defScope s__law_scan) := ⟨rfl, rfl, rfl, by decide +kernel, rfl, by decide +kernel, by decide +kernel⟩
def t__law_scan : DTS := (dSeq (dAsg (dOwn (fLst dNil)) (.nm 5))
  (dSeq (dFor (wSeq (dOp rdIx (dVar 0) (dC (.int 1)))) (.nm 6) (dIfS (dAnd (dTest (dCall noX W__law_sees (dCons (dVar 0) (dCons (dVar 6) (dCons (dVar 1) dNil))))) (dTest (dCall noX W__law_fits (dCons (dOp rdIx (dOp rdIx (dVar 6) (dC (.int 2))) (dVar 2)) (dCons (dVar 3) (dCons (dVar 4) dNil)))))) (dDrop (dML rdAppend (dVar 5) (dCons (dTup (dCons (dOp rdIx (dOp rdIx (dVar 6) (dC (.int 2))) (dVar 2)) (dCons (dOp rdIx (dVar 6) (dC (.int 1))) (dCons (dOp rdIx (dVar 6) (dC (.int 0))) dNil)))) dNil))) dNext))
  (dRet (dB rdTuple (dCons (dL (fB rdSorted (dCons (dVar 5) dNil))) dNil)))))
def W__law_scan : DSp := fnW ["_law_stand_here", "_law_writer", "_law_column", "_law_below", "_law_above", "_law_found", "_law_version"] ["_law_stand_here", "_law_writer", "_law_column", "_law_below", "_law_above"] fun _ => t__law_scan
theorem f__law_scan {P : Program} {w : World} {K : PySem.W.Frag} {mg : Str → Option Value} {base : Heap} {T : List (Addr × Str)} {k : Nat} {f : Addr} {fd : FuncData} (F : Fun K "_law_scan" "_law_scan" s__law_scan f fd) (c__law_sees : FnC P w K mg base T k "_law_sees" ["_law_stand_here", "_law_version", "_law_writer"] W__law_sees) (c__law_fits : FnC P w K mg base T k "_law_fits" ["_law_mark", "_law_below", "_law_above"] W__law_fits) (g_sorted : mg "sorted" = none) (g_tuple : mg "tuple" = none) :
    FnG P w K mg base T (k + 1) f fd ["_law_stand_here", "_law_writer", "_law_column", "_law_below", "_law_above"] W__law_scan := by
  have c_ := sc__law_scan
  refine fn_g (k := k) F sc__law_scan fun cdv A outer s H E' Γ Ed hcd hΓ hr hg tk => ?_
  have r1_ := room1 hr
  have r64_ := room64 hr
  have r65_ := room65 hr
  exact (dss_cons (ds_set 5 c_.nd (DF.toOwn (df_lst da_nil)))
    (dss_cons (ds_for (passes_of rfl) (by rfl) (dw_seq (de_ix r1_ (dv 0) de_int)) (dg_nm 6 c_.nd) (dss_one (ds_if (DW.dt (dw_and (dt_val (de_fn hΓ c__law_sees hr hg takes_no (da_cons (dv 0) (da_cons (dv 6) (da_cons (dv 1) da_nil))))) (dw_and1 (dt_val (de_fn hΓ c__law_fits hr hg takes_no (da_cons (de_ix r1_ (de_ix r1_ (dv 6) de_int) (dv 2)) (da_cons (dv 3) (da_cons (dv 4) da_nil)))))))) (dss_one (ds_expr (de_mL PySem.F.plainAttrs_list PySem.F.slot_list_append PySem.F.type_list_append mt_append lm_append (dv 5) (da_cons (de_tup (da_cons (de_ix r1_ (de_ix r1_ (dv 6) de_int) (dv 2)) (da_cons (de_ix r1_ (dv 6) de_int) (da_cons (de_ix r1_ (dv 6) de_int) da_nil)))) da_nil)))) dss_nil)))
    (dss_one (ds_ret (de_callTy call_tuple_of la_tuple (by rfl) g_tuple (by decide +kernel) (da_cons (DF.toDE (df_callB cr_sort lf_sort (by rfl) g_sorted (by decide +kernel) (da_cons (dv 5) da_nil))) da_nil))))))
/-! ### _law_bounds -/
abbrev s__law_bounds : Stmt := top 28
theorem sc__law_bounds : FnScope ["_law_feed_here", "_law_below"] ["_law_feed_here"] (defScope s__law_bounds) := ⟨rfl, rfl, rfl, by decide +kernel, rfl, by decide +kernel, by decide +kernel⟩
def t__law_bounds : DTS := (dSeq (dAsg (dOp rdIx (dL (fLst (dCons (dC .none) (dCons (dCall noX W__law_draw (dCons (dVar 0) (dCons (dC (.int 6)) dNil))) (dCons (dNeg (dC (.int 999))) (dCons (dC (.int 999)) dNil)))))) (dCall noX W__law_draw (dCons (dVar 0) (dCons (dC (.int 4)) dNil)))) (.nm 1))
  (dRet (dTup (dCons (dVar 1) (dCons (dOp rdIx (dL (fLst (dCons (dC .none) (dCons (dCall noX W__law_draw (dCons (dVar 0) (dCons (dC (.int 6)) dNil))) (dCons (dC (.int 5)) (dCons (dNeg (dC (.int 999))) dNil)))))) (dCall noX W__law_draw (dCons (dVar 0) (dCons (dC (.int 4)) dNil)))) dNil)))))
def W__law_bounds : DSp := fnW ["_law_feed_here", "_law_below"] ["_law_feed_here"] fun _ => t__law_bounds
theorem f__law_bounds {P : Program} {w : World} {K : PySem.W.Frag} {mg : Str → Option Value} {base : Heap} {T : List (Addr × Str)} {k : Nat} {f : Addr} {fd : FuncData} (F : Fun K "_law_bounds" "_law_bounds" s__law_bounds f fd) (c__law_draw : FnC P w K mg base T k "_law_draw" ["_law_feed_here", "_law_many"] W__law_draw) :
    FnG P w K mg base T (k + 1) f fd ["_law_feed_here"] W__law_bounds := by
  have c_ := sc__law_bounds
  refine fn_g (k := k) F sc__law_bounds fun cdv A outer s H E' Γ Ed hcd hΓ hr hg tk => ?_
  have r1_ := room1 hr
  have r64_ := room64 hr
  have r65_ := room65 hr
  exact (dss_cons (ds_set 1 c_.nd (de_ix r1_ (DF.toDE (df_lst (da_cons de_non (da_cons (de_fn hΓ c__law_draw hr hg takes_no (da_cons (dv 0) (da_cons de_int da_nil))) (da_cons (de_neg de_int) (da_cons de_int da_nil)))))) (de_fn hΓ c__law_draw hr hg takes_no (da_cons (dv 0) (da_cons de_int da_nil)))))
    (dss_one (ds_ret (de_tup (da_cons (dv 1) (da_cons (de_ix r1_ (DF.toDE (df_lst (da_cons de_non (da_cons (de_fn hΓ c__law_draw hr hg takes_no (da_cons (dv 0) (da_cons de_int da_nil))) (da_cons de_int (da_cons (de_neg de_int) da_nil)))))) (de_fn hΓ c__law_draw hr hg takes_no (da_cons (dv 0) (da_cons de_int da_nil)))) da_nil))))))
/-! ### law -/
abbrev s_law : Stmt := top 29
theorem sc_law : FnScope ["_law_script", "_law_feed_here", "_law_lap", "_law_stand_here", "_law_kept", "_law_writer", "_law_entries", "_law_seen", "_law_ought", "_law_some", "_law_lost", "_law_told", "_law_every", "_law_k", "_law_column", "_law_below", "_law_above", "_law_version", "_law_one"] ["_law_script"] (defScope s_law) := ⟨rfl, rfl, rfl, by decide +kernel, rfl, by decide +kernel, by decide +kernel⟩
def t_law (E : DXS) : DTS := (dSeq (dAsg (dCall noX W__law_feed (dCons (dVar 0) dNil)) (.nm 1))
  (dSeq (dFor (wRg1 (dC (.int 4))) (.nm 2) (dSeq (dAsg (dCall noX W__law_some_stand (dCons (dVar 1) dNil)) (.nm 3))
  (dSeq (dAsg (dB rdRepr (dCons (dVar 3) dNil)) (.nm 4))
  (dSeq (dFor (wSeq (dL (fLc (wRg1 (dB rdLen (dCons (dOp rdIx (dVar 3) (dC (.int 2))) dNil))) (.nm 13) (dTest (dOp rdNe (dOp rdIx (dOp rdIx (dVar 3) (dC (.int 2))) (dVar 13)) (dTup (dCons (dC (.str "gone")) dNil)))) (dVar 13) [13]))) (.nm 5) (dSeq (dAsgN (dTup (dCons (dCall noX W__law_draw (dCons (dVar 1) (dCons (dOp rdIx (dVar 3) (dC (.int 0))) dNil))) (dCons (dCall noX W__law_bounds (dCons (dVar 1) dNil)) dNil))) 14 [15, 16])
  (dSeq (dAsg (dCall noX W__law_some_entries (dCons (dVar 1) (dCons (dVar 3) (dCons (dVar 14) dNil)))) (.nm 6))
  (dSeq (dAsg (dL (fLc (wSeq (dOp rdIx (dVar 3) (dC (.int 1)))) (.nm 17) (dTest (dCall noX W__law_sees (dCons (dVar 3) (dCons (dVar 17) (dCons (dVar 5) dNil))))) (dVar 17) [17])) (.nm 7))
  (dSeq (dAsg (dL (fLc (wSeq (dVar 7)) (.nm 18) (dTest (dOp (rdInT false) (dCall noX W__law_entry (dCons (dVar 18) (dCons (dVar 14) dNil))) (dVar 6))) (dTup (dCons (dOp rdIx (dOp rdIx (dVar 18) (dC (.int 2))) (dVar 14)) (dCons (dOp rdIx (dVar 18) (dC (.int 1))) (dCons (dOp rdIx (dVar 18) (dC (.int 0))) dNil)))) [18])) (.nm 8))
  (dSeq (dAsg (dB rdTuple (dCons (dL (fB rdSorted (dCons (dL (fLc (wSeq (dVar 8)) (.nm 18) (dTest (dCall noX W__law_fits (dCons (dOp rdIx (dVar 18) (dC (.int 0))) (dCons (dVar 15) (dCons (dVar 16) dNil))))) (dVar 18) [18])) dNil))) dNil)) (.nm 9))
  (dSeq (dIfS (dTest (dOp rdNe (dB rdRepr (dCons (dCallK E W_read_entries ⟨4, [], [.none, .none], [(false, 0), (false, 1)]⟩ (dCons (dVar 3) (dCons (dVar 5) (dCons (dVar 14) (dCons (dVar 6) dNil)))) dNil) dNil)) (dB rdRepr (dCons (dB rdTuple (dCons (dL (fB rdSorted (dCons (dVar 8) dNil))) dNil)) dNil)))) (dRet (dC (.bool false))) dNext)
  (dSeq (dIfS (dTest (dOp rdNe (dB rdRepr (dCons (dCallK E W_read_entries ⟨4, ["high", "low"], [], [(true, 1), (true, 0)]⟩ (dCons (dVar 3) (dCons (dVar 5) (dCons (dVar 14) (dCons (dVar 6) dNil)))) (dCons (dVar 16) (dCons (dVar 15) dNil))) dNil)) (dB rdRepr (dCons (dVar 9) dNil)))) (dRet (dC (.bool false))) dNext)
  (dSeq (dAsg (dL (fLc (wSeq (dVar 7)) (.nm 18) (dTest (dOp (rdInT true) (dCall noX W__law_entry (dCons (dVar 18) (dCons (dVar 14) dNil))) (dVar 6))) (dOp rdIx (dVar 18) (dC (.int 0))) [18])) (.nm 10))
  (dSeq (dAsg (dL (fLst (dCons (dCall E W_lacking_of (dCons (dVar 3) (dCons (dVar 5) (dCons (dVar 14) (dCons (dVar 6) dNil))))) (dCons (dCall E W_lacking_of (dCons (dVar 3) (dCons (dVar 5) (dCons (dVar 14) (dCons (dTup dNil) dNil))))) dNil)))) (.nm 11))
  (dSeq (dIfS (dTest (dOp rdNe (dB rdRepr (dCons (dVar 11) dNil)) (dB rdRepr (dCons (dL (fLst (dCons (dOp rdIx (dOp rdAdd (dVar 10) (dL (fLst (dCons (dC .none) dNil)))) (dC (.int 0))) (dCons (dIf (dTest (dOp rdNe (dVar 7) (dL (fLst dNil)))) (dOp rdIx (dOp rdIx (dVar 7) (dC (.int 0))) (dC (.int 0))) (dC .none)) dNil)))) dNil)))) (dRet (dC (.bool false))) dNext)
  (dSeq (dAsg (dB rdTuple (dCons (dCall noX W__law_all (dCons (dVar 3) (dCons (dVar 14) dNil))) dNil)) (.nm 12))
  (dIfS (dTest (dOp rdNe (dB rdRepr (dCons (dCallK E W_read_entries ⟨4, [], [.none, .none], [(false, 0), (false, 1)]⟩ (dCons (dVar 3) (dCons (dVar 5) (dCons (dVar 14) (dCons (dVar 12) dNil)))) dNil) dNil)) (dB rdRepr (dCons (dCall noX W__law_scan (dCons (dVar 3) (dCons (dVar 5) (dCons (dVar 14) (dCons (dC .none) (dCons (dC .none) dNil)))))) dNil)))) (dRet (dC (.bool false))) dNext)))))))))))))
  (dIfS (dTest (dOp rdNe (dB rdRepr (dCons (dVar 3) dNil)) (dVar 4))) (dRet (dC (.bool false))) dNext)))))
  (dRet (dC (.bool true)))))
def W_law : DSp := fnW ["_law_script", "_law_feed_here", "_law_lap", "_law_stand_here", "_law_kept", "_law_writer", "_law_entries", "_law_seen", "_law_ought", "_law_some", "_law_lost", "_law_told", "_law_every", "_law_k", "_law_column", "_law_below", "_law_above", "_law_version", "_law_one"] ["_law_script"] t_law
theorem f_law {P : Program} {w : World} {K : PySem.W.Frag} {mg : Str → Option Value} {base : Heap} {T : List (Addr × Str)} {k : Nat} {f : Addr} {fd : FuncData} (F : Fun K "law" "law" s_law f fd) (c_read_entries_K : FnK P w K mg base T k "read_entries" ["stand", "writer", "column", "entries", "low", "high"] ⟨4, [], [.none, .none], [(false, 0), (false, 1)]⟩ W_read_entries) (c__law_scan : FnC P w K mg base T k "_law_scan" ["_law_stand_here", "_law_writer", "_law_column", "_law_below", "_law_above"] W__law_scan) (c__law_all : FnC P w K mg base T k "_law_all" ["_law_stand_here", "_law_column"] W__law_all) (c_lacking_of : FnC P w K mg base T k "lacking_of" ["stand", "writer", "column", "entries"] W_lacking_of) (c__law_entry : FnC P w K mg base T k "_law_entry" ["_law_version", "_law_column"] W__law_entry) (c_read_entries_K_high_low : FnK P w K mg base T k "read_entries" ["stand", "writer", "column", "entries", "low", "high"] ⟨4, ["high", "low"], [], [(true, 1), (true, 0)]⟩ W_read_entries) (c__law_fits : FnC P w K mg base T k "_law_fits" ["_law_mark", "_law_below", "_law_above"] W__law_fits) (c__law_sees : FnC P w K mg base T k "_law_sees" ["_law_stand_here", "_law_version", "_law_writer"] W__law_sees) (c__law_some_entries : FnC P w K mg base T k "_law_some_entries" ["_law_feed_here", "_law_stand_here", "_law_column"] W__law_some_entries) (c__law_bounds : FnC P w K mg base T k "_law_bounds" ["_law_feed_here"] W__law_bounds) (c__law_draw : FnC P w K mg base T k "_law_draw" ["_law_feed_here", "_law_many"] W__law_draw) (c__law_some_stand : FnC P w K mg base T k "_law_some_stand" ["_law_feed_here"] W__law_some_stand) (c__law_feed : FnC P w K mg base T k "_law_feed" ["_law_script"] W__law_feed) (g_range : mg "range" = none) (g_repr : mg "repr" = none) (g_len : mg "len" = none) (g_tuple : mg "tuple" = none) (g_sorted : mg "sorted" = none) :
    FnG P w K mg base T (k + 1) f fd ["_law_script"] W_law := by
  have c_ := sc_law
  refine fn_g (k := k) F sc_law fun cdv A outer s H E' Γ Ed hcd hΓ hr hg tk => ?_
  have r1_ := room1 hr
  have r64_ := room64 hr
  have r65_ := room65 hr
  exact (dss_cons (ds_set 1 c_.nd (de_fn hΓ c__law_feed hr hg takes_no (da_cons (dv 0) da_nil)))
    (dss_cons (ds_for (passes_of rfl) (by rfl) (dw_rg1 (by rfl) g_range de_int) (dg_nm 2 c_.nd) (dss_cons (ds_set 3 c_.nd (de_fn hΓ c__law_some_stand hr hg takes_no (da_cons (dv 1) da_nil)))
    (dss_cons (ds_set 4 c_.nd (de_callB (cr_repr hg r64_) la_repr (by rfl) g_repr (by decide +kernel) (da_cons (dv 3) da_nil)))
    (dss_cons (ds_for (passes_of rfl) (by rfl) (dw_seq (DF.toDE (df_lc (by rfl) c_.nd (dw_rg1 (by rfl) g_range (de_callB cr_len la_len (by rfl) g_len (by decide +kernel) (da_cons (de_ix r1_ (dv 3) de_int) da_nil))) (own := [("_law_k", 13)]) (show BlkOk ["_law_script", "_law_feed_here", "_law_lap", "_law_stand_here", "_law_kept", "_law_writer", "_law_entries", "_law_seen", "_law_ought", "_law_some", "_law_lost", "_law_told", "_law_every", "_law_k", "_law_column", "_law_below", "_law_above", "_law_version", "_law_one"] (defScope s_law) _ _ from blkOk_by (by decide +kernel)) (fun _ _ _ _ _ => (dg_nm 13 c_.nd)) (by decide) (fun Γ' hΓ1 _ _ _ _ _ => have hΓ := hΓ1.trans hΓ; (dts_one (dt_cmp (op_neA r64_) lr_ne (de_ix r1_ (de_ix r1_ (dv 3) de_int) (dv 13)) (de_tup (da_cons de_str da_nil))))) (fun Γ' hΓ1 _ _ _ _ _ => have hΓ := hΓ1.trans hΓ; (dv 13))))) (dg_nm 5 c_.nd) (dss_cons (ds_asgN (by rfl) (de_tup (da_cons (de_fn hΓ c__law_draw hr hg takes_no (da_cons (dv 1) (da_cons (de_ix r1_ (dv 3) de_int) da_nil))) (da_cons (de_fn hΓ c__law_bounds hr hg takes_no (da_cons (dv 1) da_nil)) da_nil))) (dg_nm 14 c_.nd) (dg_tup (by rfl) (dgs_cons (dg_nm 15 c_.nd) (dgs_cons (dg_nm 16 c_.nd) dgs_nil))))
    (dss_cons (ds_set 6 c_.nd (de_fn hΓ c__law_some_entries hr hg takes_no (da_cons (dv 1) (da_cons (dv 3) (da_cons (dv 14) da_nil)))))
    (dss_cons (ds_lc 7 (by rfl) c_.nd (dw_seq (de_ix r1_ (dv 3) de_int)) (own := [("_law_version", 17)]) (show BlkOk ["_law_script", "_law_feed_here", "_law_lap", "_law_stand_here", "_law_kept", "_law_writer", "_law_entries", "_law_seen", "_law_ought", "_law_some", "_law_lost", "_law_told", "_law_every", "_law_k", "_law_column", "_law_below", "_law_above", "_law_version", "_law_one"] (defScope s_law) _ _ from blkOk_by (by decide +kernel)) (fun _ _ _ _ _ => (dg_nm 17 c_.nd)) (by decide) (fun Γ' hΓ1 _ _ _ _ _ => have hΓ := hΓ1.trans hΓ; (dts_one (dt_val (de_fn hΓ c__law_sees hr hg takes_no (da_cons (dv 3) (da_cons (dv 17) (da_cons (dv 5) da_nil))))))) (fun Γ' hΓ1 _ _ _ _ _ => have hΓ := hΓ1.trans hΓ; (dv 17)))
    (dss_cons (ds_lc 8 (by rfl) c_.nd (dw_seq (dv 7)) (own := [("_law_one", 18)]) (show BlkOk ["_law_script", "_law_feed_here", "_law_lap", "_law_stand_here", "_law_kept", "_law_writer", "_law_entries", "_law_seen", "_law_ought", "_law_some", "_law_lost", "_law_told", "_law_every", "_law_k", "_law_column", "_law_below", "_law_above", "_law_version", "_law_one"] (defScope s_law) _ _ from blkOk_by (by decide +kernel)) (fun _ _ _ _ _ => (dg_nm 18 c_.nd)) (by decide) (fun Γ' hΓ1 _ _ _ _ _ => have hΓ := hΓ1.trans hΓ; (dts_one (dt_cmp (op_inT r65_) lr_inT (de_fn hΓ c__law_entry hr hg takes_no (da_cons (dv 18) (da_cons (dv 14) da_nil))) (dv 6)))) (fun Γ' hΓ1 _ _ _ _ _ => have hΓ := hΓ1.trans hΓ; (de_tup (da_cons (de_ix r1_ (de_ix r1_ (dv 18) de_int) (dv 14)) (da_cons (de_ix r1_ (dv 18) de_int) (da_cons (de_ix r1_ (dv 18) de_int) da_nil))))))
    (dss_cons (ds_set 9 c_.nd (de_callTy call_tuple_of la_tuple (by rfl) g_tuple (by decide +kernel) (da_cons (DF.toDE (df_callB cr_sort lf_sort (by rfl) g_sorted (by decide +kernel) (da_cons (DF.toDE (df_lc (by rfl) c_.nd (dw_seq (dv 8)) (own := [("_law_one", 18)]) (show BlkOk ["_law_script", "_law_feed_here", "_law_lap", "_law_stand_here", "_law_kept", "_law_writer", "_law_entries", "_law_seen", "_law_ought", "_law_some", "_law_lost", "_law_told", "_law_every", "_law_k", "_law_column", "_law_below", "_law_above", "_law_version", "_law_one"] (defScope s_law) _ _ from blkOk_by (by decide +kernel)) (fun _ _ _ _ _ => (dg_nm 18 c_.nd)) (by decide) (fun Γ' hΓ1 _ _ _ _ _ => have hΓ := hΓ1.trans hΓ; (dts_one (dt_val (de_fn hΓ c__law_fits hr hg takes_no (da_cons (de_ix r1_ (dv 18) de_int) (da_cons (dv 15) (da_cons (dv 16) da_nil))))))) (fun Γ' hΓ1 _ _ _ _ _ => have hΓ := hΓ1.trans hΓ; (dv 18)))) da_nil))) da_nil)))
    (dss_cons (ds_if (dt_cmp (op_neA r64_) lr_ne (de_callB (cr_repr hg r64_) la_repr (by rfl) g_repr (by decide +kernel) (da_cons (de_fnD hΓ c_read_entries_K (by rfl) (by rfl) hr hg tk (da_cons (dv 3) (da_cons (dv 5) (da_cons (dv 14) (da_cons (dv 6) da_nil))))) da_nil)) (de_callB (cr_repr hg r64_) la_repr (by rfl) g_repr (by decide +kernel) (da_cons (de_callTy call_tuple_of la_tuple (by rfl) g_tuple (by decide +kernel) (da_cons (DF.toDE (df_callB cr_sort lf_sort (by rfl) g_sorted (by decide +kernel) (da_cons (dv 8) da_nil))) da_nil)) da_nil))) (dss_one (ds_ret de_bl)) dss_nil)
    (dss_cons (ds_if (dt_cmp (op_neA r64_) lr_ne (de_callB (cr_repr hg r64_) la_repr (by rfl) g_repr (by decide +kernel) (da_cons (de_fnKw hΓ c_read_entries_K_high_low (by rfl) hr hg tk (da_cons (dv 3) (da_cons (dv 5) (da_cons (dv 14) (da_cons (dv 6) da_nil)))) (dk_cons (dv 16) (dk_cons (dv 15) dk_nil))) da_nil)) (de_callB (cr_repr hg r64_) la_repr (by rfl) g_repr (by decide +kernel) (da_cons (dv 9) da_nil))) (dss_one (ds_ret de_bl)) dss_nil)
    (dss_cons (ds_lc 10 (by rfl) c_.nd (dw_seq (dv 7)) (own := [("_law_one", 18)]) (show BlkOk ["_law_script", "_law_feed_here", "_law_lap", "_law_stand_here", "_law_kept", "_law_writer", "_law_entries", "_law_seen", "_law_ought", "_law_some", "_law_lost", "_law_told", "_law_every", "_law_k", "_law_column", "_law_below", "_law_above", "_law_version", "_law_one"] (defScope s_law) _ _ from blkOk_by (by decide +kernel)) (fun _ _ _ _ _ => (dg_nm 18 c_.nd)) (by decide) (fun Γ' hΓ1 _ _ _ _ _ => have hΓ := hΓ1.trans hΓ; (dts_one (dt_cmp (op_notInT r65_) lr_inT (de_fn hΓ c__law_entry hr hg takes_no (da_cons (dv 18) (da_cons (dv 14) da_nil))) (dv 6)))) (fun Γ' hΓ1 _ _ _ _ _ => have hΓ := hΓ1.trans hΓ; (de_ix r1_ (dv 18) de_int)))
    (dss_cons (ds_set 11 c_.nd (DF.toDE (df_lst (da_cons (de_fn hΓ c_lacking_of hr hg tk (da_cons (dv 3) (da_cons (dv 5) (da_cons (dv 14) (da_cons (dv 6) da_nil))))) (da_cons (de_fn hΓ c_lacking_of hr hg tk (da_cons (dv 3) (da_cons (dv 5) (da_cons (dv 14) (da_cons (de_tup da_nil) da_nil))))) da_nil)))))
    (dss_cons (ds_if (dt_cmp (op_neA r64_) lr_ne (de_callB (cr_repr hg r64_) la_repr (by rfl) g_repr (by decide +kernel) (da_cons (dv 11) da_nil)) (de_callB (cr_repr hg r64_) la_repr (by rfl) g_repr (by decide +kernel) (da_cons (DF.toDE (df_lst (da_cons (de_ix r1_ (de_bin op_addAll lr_add (dv 10) (DF.toDE (df_lst (da_cons de_non da_nil)))) de_int) (da_cons (de_ifExp (dt_cmp (op_neA r64_) lr_ne (dv 7) (DF.toDE (df_lst da_nil))) (de_ix r1_ (de_ix r1_ (dv 7) de_int) de_int) de_non) da_nil)))) da_nil))) (dss_one (ds_ret de_bl)) dss_nil)
    (dss_cons (ds_set 12 c_.nd (de_callTy call_tuple_of la_tuple (by rfl) g_tuple (by decide +kernel) (da_cons (de_fn hΓ c__law_all hr hg takes_no (da_cons (dv 3) (da_cons (dv 14) da_nil))) da_nil)))
    (dss_one (ds_if (dt_cmp (op_neA r64_) lr_ne (de_callB (cr_repr hg r64_) la_repr (by rfl) g_repr (by decide +kernel) (da_cons (de_fnD hΓ c_read_entries_K (by rfl) (by rfl) hr hg tk (da_cons (dv 3) (da_cons (dv 5) (da_cons (dv 14) (da_cons (dv 12) da_nil))))) da_nil)) (de_callB (cr_repr hg r64_) la_repr (by rfl) g_repr (by decide +kernel) (da_cons (de_fn hΓ c__law_scan hr hg takes_no (da_cons (dv 3) (da_cons (dv 5) (da_cons (dv 14) (da_cons de_non (da_cons de_non da_nil)))))) da_nil))) (dss_one (ds_ret de_bl)) dss_nil))))))))))))))
    (dss_one (ds_if (dt_cmp (op_neA r64_) lr_ne (de_callB (cr_repr hg r64_) la_repr (by rfl) g_repr (by decide +kernel) (da_cons (dv 3) da_nil)) (dv 4)) (dss_one (ds_ret de_bl)) dss_nil))))))
    (dss_one (ds_ret de_bl))))
end DL.G
namespace DL.G
open PySem PySem.Spec PyProof.Rows L2
set_option autoImplicit true
local macro_rules | `(tactic| walk_at "hp") => `(tactic| first | assumption | exact put_same | exact (put_other (by assumption)).trans (by assumption) | exact (put_other (Ne.symm (by assumption))).trans (by assumption) | (simp only [put_same, put_other, ne_eq, *]; done))
local macro_rules | `(tactic| walk_at "sh") => `(tactic| first | exact shaped_int _ | exact shaped_none | exact shaped_bool _ | rfl | assumption | exact shaped_ok (n := 8) (by decide) (by assumption))
local macro_rules | `(tactic| walk_at "dl1") => `(tactic| first
  | with_reducible refine e_seq ?_
  | with_reducible refine e_ret ?_
  | with_reducible refine e_asg ?_
  | with_reducible refine k_nm ?_
  | with_reducible refine e_if ?_
  | with_reducible refine e_drop ?_
  | with_reducible refine e_next ?_
  | with_reducible refine e_setIx ?_
  | with_reducible refine e_par ?_
  | with_reducible refine k_par ?_
  | with_reducible refine e_par3 ?_
  | with_reducible refine k_par3 ?_
  | with_reducible refine e_retF ?_
  | with_reducible refine e_for ?_
  | with_reducible refine e_op ?_
  | with_reducible refine e_c ?_
  | ((with_reducible apply e_var); exact rfl)
  | with_reducible refine e_test ?_
  | with_reducible refine k_test ?_
  | with_reducible refine e_and ?_
  | with_reducible refine e_or ?_
  | with_reducible refine e_not ?_
  | with_reducible refine k_not ?_
  | with_reducible refine e_andV ?_
  | with_reducible refine e_orV ?_
  | with_reducible refine e_notV ?_
  | with_reducible refine k_notV ?_
  | with_reducible refine e_ifE ?_
  | with_reducible refine e_nil ?_
  | with_reducible refine e_cons ?_
  | with_reducible refine e_tup ?_
  | ((with_reducible apply k_tup); exact rfl; exact rfl)
  | with_reducible refine e_lst ?_
  | ((with_reducible apply k_lst); exact rfl; exact rfl)
  | with_reducible refine e_L ?_
  | with_reducible refine e_Own ?_
  | with_reducible refine e_B ?_
  | with_reducible refine e_fB ?_
  | with_reducible refine e_call ?_
  | with_reducible refine e_callK ?_
  | with_reducible refine e_ML ?_
  | with_reducible refine e_negC ?_
  | with_reducible refine e_yes ?_
  | ((with_reducible apply k_ML); (first | exact rfl | exact asL_own (by walk_at "hp")))
  | ((with_reducible apply k_set); walk_at "hp"; exact rfl)
  | with_reducible refine r_add ?_
  | with_reducible refine r_sub ?_
  | with_reducible refine r_lt ?_
  | with_reducible refine r_le ?_
  | with_reducible refine r_gt ?_
  | with_reducible refine r_ge ?_
  | with_reducible refine r_eqI ?_
  | with_reducible refine r_neI ?_
  | with_reducible refine r_eqS ?_
  | with_reducible refine r_neS ?_
  | ((with_reducible apply r_eq); exact rfl; exact rfl; walk_at "sh"; walk_at "sh")
  | ((with_reducible apply r_ne); exact rfl; exact rfl; walk_at "sh"; walk_at "sh")
  | with_reducible refine r_isN ?_
  | with_reducible refine r_notN ?_
  | ((with_reducible apply r_mod); (first | decide | omega))
  | ((with_reducible apply r_div); (first | decide | exact ⟨by omega, by omega⟩))
  | ((with_reducible apply r_mul); (first | decide | exact .inl ⟨by omega, by omega⟩ | exact .inr ⟨by omega, by omega⟩))
  | ((with_reducible apply r_pow); (first | decide | exact ⟨by omega, by omega, by omega⟩))
  | ((with_reducible apply r_ixT); exact rfl)
  | ((with_reducible apply r_ixL); exact rfl)
  | ((with_reducible apply r_ixO); walk_at "hp"; exact rfl)
  | with_reducible refine b_lenT ?_
  | with_reducible refine b_lenL ?_
  | ((with_reducible apply b_lenO); walk_at "hp")
  | with_reducible refine b_tupleL ?_
  | with_reducible refine b_listL ?_
  | with_reducible refine b_listT ?_
  | with_reducible refine b_intI ?_
  | with_reducible refine b_intB ?_
  | with_reducible refine e_by ?_
  | with_reducible refine e_fAdd ?_
  | with_reducible refine e_lrg1 ?_
  | with_reducible refine e_lrg2 ?_
  | with_reducible refine e_sl ?_
  | with_reducible refine e_no ?_
  | with_reducible refine e_part ?_
  | with_reducible refine k_part ?_
  | with_reducible refine r_slL ?_
  | with_reducible refine r_slT ?_
  | with_reducible refine e_wSeq ?_
  | with_reducible refine k_seqL ?_
  | with_reducible refine k_seqT ?_
  | ((with_reducible apply k_seqO); walk_at "hp")
  | with_reducible refine e_wRg1 ?_
  | with_reducible refine e_fLc ?_
  | with_reducible refine e_rt ?_
  | with_reducible refine e_nx ?_
  | with_reducible refine e_forG ?_
  | with_reducible refine k_forGT ?_
  | with_reducible refine k_forGL ?_
  | with_reducible refine e_fLcG ?_
  | with_reducible refine k_lcGT ?_
  | with_reducible refine k_lcGL ?_
  | with_reducible refine e_tupO ?_
  | with_reducible refine k_tupO rfl ?_
  | with_reducible refine e_lstO ?_
  | with_reducible refine k_lstO rfl ?_
  | with_reducible refine e_unp ?_
  | with_reducible refine e_retN ?_
  | rw [put_put])
local macro_rules | `(tactic| walk_at "dl") => `(tactic| repeat walk_at "dl1")
/-! ### draws -/
def Fd (sc : List Int) (C : Int) (o : MO) : Prop := ∃ i p c : Int, o = .lst [.list (sc.map PyData.int), .int i, .int p, .int c] ∧ 0 ≤ i ∧ 0 ≤ c ∧ c ≤ C
theorem Fd.up {sc : List Int} {C C' : Int} {o : MO} (f : Fd sc C o) (h : C ≤ C') : Fd sc C' o := by
  obtain ⟨i, p, c, e, a, b, d⟩ := f
  exact ⟨i, p, c, e, a, b, by omega⟩
theorem fmod_in {i m : Int} (h : 1 ≤ m) : 0 ≤ i.fmod m ∧ i.fmod m < m := ⟨Int.fmod_nonneg_of_pos i (by omega), Int.fmod_lt_of_pos i (by omega)⟩
theorem pow_c1 {x c : Int} (h0 : 0 ≤ c) (h1 : c ≤ 10 ^ 12 + 1) : CPow (x.fmod 2147483629 + 7919 * c + 1) 5 := by
  obtain ⟨z1, z2⟩ := fmod_in (i := x) (m := 2147483629) (by decide)
  exact ⟨by omega, by omega, by omega⟩
theorem pow_c2 {x c : Int} (h0 : 0 ≤ c) (h1 : c ≤ 10 ^ 12 + 1) : CPow (x.fmod 2147483647 + 104729 * c) 5 := by
  obtain ⟨z1, z2⟩ := fmod_in (i := x) (m := 2147483647) (by decide)
  exact ⟨by omega, by omega, by omega⟩
theorem shaped_ints (ns : List Int) : SeqAt.shaped (.list (ns.map PyData.int)) = true := shaped_ok (n := 1) (by decide) (by simp [dOk])
theorem at_get {xs : List PyData} {j : Int} (h0 : 0 ≤ j) (h1 : j < xs.length) : ∃ d, atI xs j = some d ∧ d ∈ xs := by
  have hl : j.toNat < xs.length := by omega
  refine ⟨xs[j.toNat], ?_, List.getElem_mem hl⟩
  unfold atI ixN
  rw [if_pos h0, if_pos h1]
  exact List.getElem?_eq_getElem hl
theorem at_ints {ns : List Int} {j : Int} (h0 : 0 ≤ j) (h1 : j < ns.length) : ∃ x, atI (ns.map PyData.int) j = some (.int x) := by
  obtain ⟨d, e, hd⟩ := at_get (xs := ns.map PyData.int) h0 (by rw [List.length_map]; exact h1)
  obtain ⟨x, _, rfl⟩ := List.mem_map.mp hd
  exact ⟨x, e⟩
/-! ### draws by a dict -/
theorem r_isB {a b : Bool} {h : MH} {Q : DK} (k : Q (.d (.bool (decide (a = b)))) h) : rdIsB (.d (.bool a)) (.d (.bool b)) h Q := k
theorem r_notB {a b : Bool} {h : MH} {Q : DK} (k : Q (.d (.bool (!decide (a = b)))) h) : rdNotB (.d (.bool a)) (.d (.bool b)) h Q := k
def fdL (sc : List Int) (i p c : Int) : List (Key × SV) := [(.inr "cells", .d (.list (sc.map PyData.int))), (.inr "at", .d (.int i)), (.inr "left", .d (.int p)), (.inr "turn", .d (.int c))]
def FdD (sc : List Int) (C : Int) (o : MO) : Prop := ∃ i p c : Int, o = .dct (fdL sc i p c) ∧ 0 ≤ i ∧ 0 ≤ c ∧ c ≤ C
theorem FdD.up {sc : List Int} {C C' : Int} {o : MO} (f : FdD sc C o) (h : C ≤ C') : FdD sc C' o := by
  obtain ⟨i, p, c, e, a, b, d⟩ := f
  exact ⟨i, p, c, e, a, b, by omega⟩
section
variable {sc : List Int} {i p c j : Int}
theorem fv_cells : valS (fdL sc i p c) (.inr "cells") = some (.d (.list (sc.map PyData.int))) := rfl
theorem fv_at : valS (fdL sc i p c) (.inr "at") = some (.d (.int i)) := rfl
theorem fv_left : valS (fdL sc i p c) (.inr "left") = some (.d (.int p)) := rfl
theorem fv_turn : valS (fdL sc i p c) (.inr "turn") = some (.d (.int c)) := rfl
theorem fp_at : putS (fdL sc i p c) (.inr "at") (.d (.int j)) = fdL sc j p c := rfl
theorem fp_left : putS (fdL sc i p c) (.inr "left") (.d (.int j)) = fdL sc i j c := rfl
theorem fp_turn : putS (fdL sc i p c) (.inr "turn") (.d (.int j)) = fdL sc i p j := rfl
end
local macro_rules | `(tactic| walk_at "fd1") => `(tactic| first
  | walk_at "dl1"
  | ((with_reducible apply r_ixD); walk_at "hp"; exact rfl; (first | exact fv_cells | exact fv_at | exact fv_left | exact fv_turn))
  | ((with_reducible apply k_setD); walk_at "hp"; exact rfl; (show (4 : Nat) < 16777216; decide); (first | rw [fp_at] | rw [fp_left] | rw [fp_turn])))
local macro_rules | `(tactic| walk_at "fd") => `(tactic| repeat walk_at "fd1")
theorem w_feedD {h : MH} {ns : List Int} {Q : DK} {E : DXK} (k : ∀ p o, h p = none → FdD (ns.take 63) 0 o → Q (.own p) (mput h p o)) : W__law_feed [.d (.list (ns.map PyData.int))] h Q E := by
  refine fnW_mk rfl ?_
  unfold t__law_feed
  show dRet _ _ [some (.d (.list (ns.map PyData.int)))] h
  refine e_ret (e_disp fun p hp => ?_)
  refine e_prC ?_
  walk_at "dl"
  have e : cutD (ns.map PyData.int) none (some 63) = (ns.take 63).map PyData.int := by
    unfold cutD
    rw [HT.sIx_none, show HT.sIx (ns.map PyData.int).length (ns.map PyData.int).length (some 63) = min 63 (ns.map PyData.int).length from HT.sIx_nat _ _ 63, List.drop_zero, Nat.sub_zero, List.map_take]
    exact List.take_eq_take_iff.mpr (by omega)
  rw [e]
  refine e_prC ?_
  walk_at "dl"
  refine e_prC ?_
  walk_at "dl"
  refine e_prC ?_
  walk_at "dl"
  refine e_prN ?_
  refine k_disp (rs := fdL (ns.take 63) 0 0 0) rfl put_same rfl rfl ?_
  rw [put_put]
  refine e_rt ?_
  rw [restr_new hp]
  exact k p _ hp ⟨0, 0, 0, rfl, by omega, by omega, by omega⟩
theorem w_drawD {h : MH} {a : Addr} {o : MO} {sc : List Int} {C m : Int} {Q : DK} {E : DXK} (ha : h a = some o) (F : FdD sc C o) (hs : sc.length ≤ 63) (hC : C ≤ 10 ^ 12) (hm : 1 ≤ m ∧ m ≤ 10 ^ 6)
    (k : ∀ v o', 0 ≤ v → v < m → FdD sc (C + 1) o' → Q (.d (.int v)) (mput h a o')) : W__law_draw [.own a, .d (.int m)] h Q E := by
  obtain ⟨i, p, c, rfl, hi, hc, hcC⟩ := F
  have hsome : (h a).isSome = true := by rw [ha]; rfl
  have fin : ∀ (v : Int) (i' p' c' : Int), 0 ≤ v → v < m → 0 ≤ i' → 0 ≤ c' → c' ≤ C + 1 → Q (.d (.int v)) (restr h (mput h a (.dct (fdL sc i' p' c'))) (.d (.int v))) := fun v i' p' c' h1 h2 h3 h4 h5 => by
    rw [restr_putd hsome, restr_self]
    exact k v _ h1 h2 ⟨i', p', c', rfl, h3, h4, h5⟩
  have md : ∀ j : Int, 0 ≤ j.fmod m ∧ j.fmod m < m := fun j => fmod_in hm.1
  refine fnW_mk rfl ?_
  unfold t__law_draw
  show dSeq _ _ _ [some (.own a), some (.d (.int m)), none, none, none, none, none] h
  walk_at "fd"
  refine k_if (fun q => ?_) fun q => ?_
  · walk_at "fd"
    exact fin _ _ _ _ (md _).1 (md _).2 hi (by omega) (by omega)
  · walk_at "fd"
    refine r_ne rfl rfl (shaped_ints _) rfl ?_
    walk_at "fd"
    refine k_if (fun q2 => ?_) fun q2 => ?_
    case' refine_1 =>
      have hn : 1 ≤ sc.length := by
        cases sc with
        | nil => simp [PyData.eqv, PyData.eqvAll] at q2
        | cons _ _ => simp
      walk_at "fd"
      obtain ⟨z1, z2⟩ := fmod_in (i := i) (m := ((sc.map PyData.int).length : Nat)) (by rw [List.length_map]; omega)
      refine r_mod (by rw [List.length_map]; omega) ?_
      obtain ⟨x, hx⟩ := at_ints (ns := sc) z1 (by simpa using z2)
      refine r_ixL hx ?_
      clear z1 z2 hx
    case' refine_2 =>
      refine e_next ?_
    all_goals
      walk_at "fd"
      refine k_and (fun q3 => ?_) fun q3 => ?_
      case' refine_1 =>
        walk_at "fd"
        refine k_if (fun q4 => ?_) fun q4 => ?_
        case' refine_1 =>
          walk_at "fd"
          exact fin _ _ _ _ (md _).1 (md _).2 (by omega) (by omega) (by omega)
      case' refine_2 =>
        refine k_ifF ?_
      all_goals
        walk_at "fd"
        refine r_pow (pow_c1 (by omega) (by omega)) ?_
        walk_at "fd"
        refine r_pow (pow_c2 (by omega) (by omega)) ?_
        walk_at "fd"
        exact fin _ _ _ _ (md _).1 (md _).2 (by omega) (by omega) (by omega)

theorem fd_some {h : MH} {a : Addr} {o : MO} (ha : h a = some o) : (h a).isSome = true := by rw [ha]; rfl
theorem ne_new {h : MH} {a p : Addr} {o : MO} (ha : h a = some o) (hp : h p = none) : p ≠ a := fun e => by rw [e, ha] at hp; cases hp
/-! ### fates -/
inductive Fate where
  | live
  | gone
  | done (i : Int)
def Fate.enc : Fate → PyData
  | .live => .tuple [.str "live"]
  | .gone => .tuple [.str "gone"]
  | .done i => .tuple [.str "done", .int i]
def Fate.num : Fate → Option Int
  | .done i => some i
  | _ => none
def nums (fs : List Fate) : List Int := fs.filterMap Fate.num
def rgI (m : Int) : List Int := (List.range m.toNat).map fun i : Nat => (i : Int)
def upI (n : Nat) : List Int := (List.range n).map fun i : Nat => (i : Int) + 1
theorem rg0 (m : Int) : rgD 0 m = (rgI m).map PyData.int := by
  unfold rgD rgI
  rw [List.map_map, show m - 0 = m by omega]
  refine List.map_congr_left fun i _ => ?_
  show PyData.int (0 + (i : Int)) = PyData.int i
  rw [Int.zero_add]
theorem rgI_len (m : Int) : (rgI m).length = m.toNat := by simp [rgI]
theorem mem_rgI {m x : Int} (h : x ∈ rgI m) : 0 ≤ x ∧ x < m := by
  obtain ⟨i, hi, rfl⟩ := List.mem_map.mp h
  have := List.mem_range.mp hi
  omega
theorem map_cons_inv {α β : Type} {f : α → β} {d : β} {r : List β} {l : List α} (e : d :: r = l.map f) : ∃ x l', l = x :: l' ∧ d = f x ∧ r = l'.map f := by
  cases l with
  | nil => cases e
  | cons x l' =>
    rw [List.map_cons] at e
    injection e with e1 e2
    exact ⟨x, l', rfl, e1, e2⟩
theorem eqv_int (i j : Int) : PyData.eqv (.int i) (.int j) = decide (i = j) := by simp only [PyData.eqv]; by_cases q : i = j <;> simp [q]
theorem at_nat {xs : List PyData} {n : Nat} {d : PyData} (e : xs[n]? = some d) : atI xs (n : Int) = some d := by
  have hl : n < xs.length := (List.getElem?_eq_some_iff.mp e).1
  unfold atI ixN
  rw [if_pos (by omega), if_pos (by omega)]
  exact e
/-! ### versions, stands -/
structure Ver where
  place : Int
  row : Int
  vals : List Int
  maker : Int
  ender : Option Int
  root : Int
def optE : Option Int → PyData
  | none => .none
  | some i => .int i
abbrev Ver.enc (v : Ver) : PyData := .tuple [.int v.place, .int v.row, .tuple (v.vals.map PyData.int), .int v.maker, optE v.ender, .int v.root]
structure Stand where
  cols : Int
  vers : List Ver
  fates : List Fate
  views : List Int
abbrev Stand.enc (s : Stand) : PyData := .tuple [.int s.cols, .tuple (s.vers.map Ver.enc), .tuple (s.fates.map Fate.enc), .tuple (s.views.map PyData.int)]
/-- a version as drawn: n columns, m writers, rows below r -/
structure VerOk (n m r : Int) (v : Ver) : Prop where
  place : 0 ≤ v.place
  row : 0 ≤ v.row ∧ v.row < r
  cols : v.vals.length = n.toNat
  vals : ∀ x ∈ v.vals, -999 ≤ x ∧ x ≤ 999
  maker : 0 ≤ v.maker ∧ v.maker < m
  ender : ∀ i, v.ender = some i → 0 ≤ i ∧ i < m
  root : 0 ≤ v.root ∧ v.root ≤ v.place
structure StandOk (s : Stand) : Prop where
  cols : 1 ≤ s.cols ∧ s.cols ≤ 3
  many : s.fates.length ≤ 20
  size : s.vers.length ≤ 40
  vers : ∀ v ∈ s.vers, VerOk s.cols s.fates.length 99 v
  rise : s.vers.Pairwise fun v u => v.place < u.place
  far : ∀ v ∈ s.vers, v.place ≤ 200
  nums : (nums s.fates).Perm (upI (nums s.fates).length)
  views : s.views.length = s.fates.length
  view : ∀ x ∈ s.views, 0 ≤ x ∧ x ≤ (DL.G.nums s.fates).length
/-! ### who is done, what is seen -/
theorem at_map {α : Type} {fs : List α} {g : α → PyData} {i : Int} (h0 : 0 ≤ i) (h1 : i < fs.length) : ∃ f, fs[i.toNat]? = some f ∧ atI (fs.map g) i = some (g f) := by
  have hl : i.toNat < fs.length := by omega
  refine ⟨fs[i.toNat], List.getElem?_eq_getElem hl, ?_⟩
  unfold atI ixN
  rw [if_pos h0, if_pos (by rw [List.length_map]; exact h1)]
  show (fs.map g)[i.toNat]? = some (g fs[i.toNat])
  rw [List.getElem?_map, List.getElem?_eq_getElem hl]
  rfl
/-- o is done within the view -/
def doneBy (fs : List Fate) (o : Option Int) (view : Int) : Bool := match o with
  | none => false
  | some i => match fs[i.toNat]? with
    | some (.done n) => decide (n ≤ view)
    | _ => false
def InF (fs : List Fate) (o : Option Int) : Prop := ∀ i, o = some i → 0 ≤ i ∧ i < fs.length
section
variable {h : MH} {Q : DK} {E : DXK} {c0 v0 w0 : PyData} {fs : List Fate} {view : Int}
theorem w_done_by {o : Option Int} (hi : InF fs o) (k : Q (.d (.bool (doneBy fs o view))) h) : W_is_done_by [.d (.tuple [c0, v0, .tuple (fs.map Fate.enc), w0]), .d (optE o), .d (.int view)] h Q E := by
  refine fnW_mk rfl ?_
  unfold t_is_done_by
  cases o with
  | none =>
    show dSeq _ _ _ [some (.d (.tuple [c0, v0, .tuple (fs.map Fate.enc), w0])), some (.d .none), some (.d (.int view)), none] h
    walk_at "dl"
    refine k_if (fun _ => ?_) (fun q => by simp [isNone] at q)
    walk_at "dl"
    rw [restr_self]
    exact k
  | some i =>
    show dSeq _ _ _ [some (.d (.tuple [c0, v0, .tuple (fs.map Fate.enc), w0])), some (.d (.int i)), some (.d (.int view)), none] h
    walk_at "dl"
    refine k_if (fun q => by simp [isNone] at q) (fun _ => ?_)
    obtain ⟨h0, h1⟩ := hi i rfl
    obtain ⟨f, e1, e2⟩ := at_map (g := Fate.enc) h0 h1
    walk_at "dl"
    refine r_ixT e2 ?_
    have e3 : doneBy fs (some i) view = match some f with
        | some (.done n) => decide (n ≤ view)
        | _ => false := by
      show (match fs[i.toNat]? with
        | some (.done n) => decide (n ≤ view)
        | _ => false) = _
      rw [e1]
    rw [e3] at k
    cases f with
    | live =>
      show asgK _ _ _ (.d (.tuple [.str "live"])) h
      walk_at "dl"
      refine k_andV (fun q => absurd q (by decide +kernel)) fun _ => ?_
      walk_at "dl"
      rw [restr_self]
      exact k
    | gone =>
      show asgK _ _ _ (.d (.tuple [.str "gone"])) h
      walk_at "dl"
      refine k_andV (fun q => absurd q (by decide +kernel)) fun _ => ?_
      walk_at "dl"
      rw [restr_self]
      exact k
    | done n =>
      show asgK _ _ _ (.d (.tuple [.str "done", .int n])) h
      walk_at "dl"
      refine k_andV (fun _ => ?_) fun q => absurd q (by decide +kernel)
      walk_at "dl"
      rw [restr_self]
      exact k
/-- a comprehension over encoded things -/
theorem lc_enc {α : Type} {enc out : α → PyData} {g : Tg} {tt : DTT} {te : DTE} {σ : DSt} {QL : List PyData → MH → Prop} (p : α → Bool) {l : List α}
    (step : ∀ v ∈ l, ∃ σ1, bindT g (.d (enc v)) σ = some σ1 ∧ (∀ K : Bool → MH → Prop, K (p v) h → tt σ1 h K) ∧ (p v = true → ∀ K : DK, K (.d (out v)) h → te σ1 h K)) (fin : QL ((l.filter p).map out) h) : lcL g tt te σ (l.map enc) [] h QL := by
  refine lc_inv (fun r acc h' => ∃ l1 l2 : List α, l = l1 ++ l2 ∧ r = l2.map enc ∧ acc = (l1.filter p).map out ∧ h' = h) ?_ ?_ _ [] h ⟨[], l, rfl, rfl, rfl, rfl⟩
  · rintro d r acc h' K ⟨l1, l2, e, er, rfl, rfl⟩ hK
    obtain ⟨v, l2', rfl, rfl, rfl⟩ := map_cons_inv er
    obtain ⟨σ1, e1, t1, t2⟩ := step v (by rw [e]; simp)
    refine ⟨σ1, e1, t1 _ ?_⟩
    refine k_lc (fun q => t2 q _ ?_) fun q => ?_
    · exact k_lcE (hK _ _ ⟨l1 ++ [v], l2', by rw [e]; simp, rfl, by rw [List.filter_append, List.map_append]; simp [q], rfl⟩)
    · exact hK _ _ ⟨l1 ++ [v], l2', by rw [e]; simp, rfl, by rw [List.filter_append, List.map_append]; simp [q], rfl⟩
  · rintro acc h' ⟨l1, l2, e, er, rfl, rfl⟩
    have e0 : l2 = [] := by
      cases l2 with
      | nil => rfl
      | cons _ _ => cases er
    subst e0
    rw [List.append_nil] at e
    subst e
    exact fin
structure InV (fs : List Fate) (v : Ver) : Prop where
  ma : InF fs (some v.maker)
  en : InF fs v.ender
theorem VerOk.inV {fs : List Fate} {n r : Int} {v : Ver} (k : VerOk n fs.length r v) : InV fs v := ⟨fun i e => by cases e; exact k.maker, k.ender⟩
end

/-! ### seen -/
section
variable {h : MH} {Q : DK} {E : DXK} {c0 v0 w0 : PyData} {fs : List Fate} {view : Int}
end

/-! ### small things: their text is short -/
theorem sOk_int {n : Nat} {i : Int} (h : -(10 ^ 19) ≤ i ∧ i ≤ 10 ^ 19) : sOk n (.int i) = true := by
  have z : i.natAbs < 10 ^ 20 := by omega
  cases n <;> simpa [sOk] using z
theorem sOk_none {n : Nat} : sOk n .none = true := by cases n <;> rfl
theorem sOk_tup {n : Nat} {xs : List PyData} (h : ∀ x ∈ xs, sOk n x = true) : sOk (n + 1) (.tuple xs) = true := by
  simp only [sOk]
  exact List.all_eq_true.mpr h
theorem sOk_lst {n : Nat} {xs : List PyData} (h : ∀ x ∈ xs, sOk n x = true) : sOk (n + 1) (.list xs) = true := by
  simp only [sOk]
  exact List.all_eq_true.mpr h
theorem sOk_ints {n : Nat} {xs : List Int} (h : ∀ x ∈ xs, -(10 ^ 19) ≤ x ∧ x ≤ 10 ^ 19) : ∀ x ∈ xs.map PyData.int, sOk n x = true := fun d hd => by
  obtain ⟨x, hx, rfl⟩ := List.mem_map.mp hd
  exact sOk_int (h x hx)
theorem nodes_ints {n : Nat} (xs : List Int) : ((xs.map PyData.int).map (nodes n)).sum = xs.length := by
  induction xs with
  | nil => rfl
  | cons x xs ih =>
    simp only [List.map_cons, List.sum_cons, List.length_cons, ih]
    cases n <;> (simp only [nodes]; omega)
theorem sOk_up : ∀ (n m : Nat) (d : PyData), n ≤ m → sOk n d = true → sOk m d = true
  | _, m, .none, _, _ => by cases m <;> rfl
  | _, m, .bool _, _, _ => by cases m <;> rfl
  | n, m, .int _, _, h => by cases n <;> cases m <;> simpa [sOk] using h
  | n, m, .str x, _, h => by cases n <;> cases m <;> simpa [sOk] using h
  | n + 1, m + 1, .list xs, hl, h => by
    have z : ∀ x ∈ xs, sOk n x = true := List.all_eq_true.mp (by simpa [sOk] using h)
    simp only [sOk]
    exact List.all_eq_true.mpr fun x hx => sOk_up n m x (by omega) (z x hx)
  | n + 1, m + 1, .tuple xs, hl, h => by
    have z : ∀ x ∈ xs, sOk n x = true := List.all_eq_true.mp (by simpa [sOk] using h)
    simp only [sOk]
    exact List.all_eq_true.mpr fun x hx => sOk_up n m x (by omega) (z x hx)
  | n + 1, 0, .list _, hl, _ => by omega
  | n + 1, 0, .tuple _, hl, _ => by omega
  | 0, _, .list _, _, h => by simp [sOk] at h
  | 0, _, .tuple _, _, h => by simp [sOk] at h
  | n, _, .dict _, _, h => by cases n <;> simp [sOk] at h
theorem nodes_up : ∀ (n m : Nat) (d : PyData), n ≤ m → sOk n d = true → nodes m d = nodes n d
  | n, m, .none, _, _ => by cases n <;> cases m <;> rfl
  | n, m, .bool _, _, _ => by cases n <;> cases m <;> rfl
  | n, m, .int _, _, h => by cases n <;> cases m <;> rfl
  | n, m, .str x, _, h => by cases n <;> cases m <;> rfl
  | n + 1, m + 1, .list xs, hl, h => by
    have z : ∀ x ∈ xs, sOk n x = true := List.all_eq_true.mp (by simpa [sOk] using h)
    simp only [nodes]
    rw [List.map_congr_left fun x hx => nodes_up n m x (by omega) (z x hx)]
  | n + 1, m + 1, .tuple xs, hl, h => by
    have z : ∀ x ∈ xs, sOk n x = true := List.all_eq_true.mp (by simpa [sOk] using h)
    simp only [nodes]
    rw [List.map_congr_left fun x hx => nodes_up n m x (by omega) (z x hx)]
  | n + 1, 0, .list _, hl, _ => by omega
  | n + 1, 0, .tuple _, hl, _ => by omega
  | 0, _, .list _, _, h => by simp [sOk] at h
  | 0, _, .tuple _, _, h => by simp [sOk] at h
  | n, _, .dict _, _, h => by cases n <;> simp [sOk] at h
/-- a version in its bounds -/
structure VerIn (v : Ver) : Prop where
  a : -(10 ^ 19) ≤ v.place ∧ v.place ≤ 10 ^ 19
  b : -(10 ^ 19) ≤ v.row ∧ v.row ≤ 10 ^ 19
  c : ∀ x ∈ v.vals, -(10 ^ 19) ≤ x ∧ x ≤ 10 ^ 19
  d : -(10 ^ 19) ≤ v.maker ∧ v.maker ≤ 10 ^ 19
  e : ∀ i, v.ender = some i → -(10 ^ 19) ≤ i ∧ i ≤ 10 ^ 19
  f : -(10 ^ 19) ≤ v.root ∧ v.root ≤ 10 ^ 19
  n : v.vals.length ≤ 10
theorem VerIn.sOk {v : Ver} (k : VerIn v) : DL.sOk 2 v.enc = true := sOk_tup fun x hx => by
  simp only [List.mem_cons, List.not_mem_nil, or_false] at hx
  rcases hx with rfl | rfl | rfl | rfl | rfl | rfl
  · exact sOk_int k.a
  · exact sOk_int k.b
  · exact sOk_tup (sOk_ints k.c)
  · exact sOk_int k.d
  · cases q : v.ender with
    | none => exact sOk_none
    | some i => exact sOk_int (k.e i q)
  · exact sOk_int k.f
theorem nodes_int {n : Nat} {i : Int} : nodes n (.int i) = 1 := by cases n <;> rfl
theorem nodes_opt {n : Nat} {o : Option Int} : nodes n (optE o) = 1 := by cases o <;> cases n <;> rfl
theorem VerIn.nodes {v : Ver} (k : VerIn v) : DL.nodes 2 v.enc ≤ 17 := by
  have e : DL.nodes 2 v.enc = 1 + (DL.nodes 1 (.int v.place) + (DL.nodes 1 (.int v.row) + ((1 + ((v.vals.map PyData.int).map (DL.nodes 0)).sum) + (DL.nodes 1 (.int v.maker) + (DL.nodes 1 (optE v.ender) + (DL.nodes 1 (.int v.root) + 0)))))) := rfl
  have := k.n
  rw [e, nodes_int, nodes_int, nodes_int, nodes_int, nodes_opt, nodes_ints]
  omega
theorem StandOk.verIn {S : Stand} (k : StandOk S) : ∀ v ∈ S.vers, VerIn v := fun v hv => by
  have o := k.vers v hv
  have far := k.far v hv
  have := o.place
  have := o.row
  have := o.maker
  have := o.root
  have := k.many
  have := k.cols
  exact ⟨by omega, by omega, fun x hx => by have := o.vals x hx; omega, by omega, fun i hi => by have := o.ender i hi; omega, by omega, by rw [o.cols]; omega⟩
theorem upI_in {n : Nat} {x : Int} (h : x ∈ upI n) : 1 ≤ x ∧ x ≤ n := by
  obtain ⟨i, hi, rfl⟩ := List.mem_map.mp h
  have := List.mem_range.mp hi
  omega
theorem StandOk.numIn {S : Stand} (k : StandOk S) : ∀ f ∈ S.fates, ∀ i, f.num = some i → 1 ≤ i ∧ i ≤ 20 := fun f hf i hi => by
  have m : i ∈ DL.G.nums S.fates := List.mem_filterMap.mpr ⟨f, hf, hi⟩
  have z := upI_in (k.nums.mem_iff.mp m)
  have hn : (DL.G.nums S.fates).length ≤ S.fates.length := List.length_filterMap_le _ _
  have := k.many
  omega
theorem fate_small {f : Fate} (h : ∀ i, f.num = some i → 1 ≤ i ∧ i ≤ 10 ^ 19) : sOk 1 f.enc = true ∧ nodes 1 f.enc ≤ 3 := by
  cases f with
  | live => exact ⟨by decide +kernel, by decide +kernel⟩
  | gone => exact ⟨by decide +kernel, by decide +kernel⟩
  | done i =>
    have := h i rfl
    refine ⟨sOk_tup fun x hx => ?_, ?_⟩
    · simp only [List.mem_cons, List.not_mem_nil, or_false] at hx
      rcases hx with rfl | rfl
      · decide +kernel
      · exact sOk_int (by omega)
    · show 1 + (nodes 0 (.str "done") + (nodes 0 (.int i) + 0)) ≤ 3
      rw [nodes_int]
      show 1 + (1 + (1 + 0)) ≤ 3
      omega
theorem StandOk.repr {S : Stand} (k : StandOk S) : reprOk S.enc := by
  have hn : (DL.G.nums S.fates).length ≤ S.fates.length := List.length_filterMap_le _ _
  have hm := k.many
  have hf : ∀ x ∈ S.fates.map Fate.enc, sOk 1 x = true ∧ nodes 1 x ≤ 3 := fun x hx => by
    obtain ⟨f, hf, rfl⟩ := List.mem_map.mp hx
    exact fate_small fun i hi => by have := k.numIn f hf i hi; omega
  refine reprOk_of (n := 5) (by decide) (sOk_tup fun x hx => ?_) ?_
  · simp only [List.mem_cons, List.not_mem_nil, or_false] at hx
    rcases hx with rfl | rfl | rfl | rfl
    · have := k.cols
      exact sOk_int (by omega)
    · exact sOk_tup fun x hx => by
        obtain ⟨v, hv, rfl⟩ := List.mem_map.mp hx
        exact sOk_up 2 3 _ (by decide) (k.verIn v hv).sOk
    · exact sOk_tup fun x hx => sOk_up 1 3 _ (by decide) (hf x hx).1
    · exact sOk_tup (sOk_ints fun x hx => by have := k.view x hx; omega)
  · have e : nodes 5 S.enc = 1 + (nodes 4 (.int S.cols) + ((1 + ((S.vers.map Ver.enc).map (nodes 3)).sum) + ((1 + ((S.fates.map Fate.enc).map (nodes 3)).sum) + ((1 + ((S.views.map PyData.int).map (nodes 3)).sum) + 0)))) := rfl
    have z1 := nodes_le (n := 3) (c := 17) (xs := S.vers.map Ver.enc) fun x hx => by
      obtain ⟨v, hv, rfl⟩ := List.mem_map.mp hx
      rw [nodes_up 2 3 _ (by decide) (k.verIn v hv).sOk]
      exact (k.verIn v hv).nodes
    have z2 := nodes_le (n := 3) (c := 3) (xs := S.fates.map Fate.enc) fun x hx => by
      rw [nodes_up 1 3 _ (by decide) (hf x hx).1]
      exact (hf x hx).2
    have z3 := k.views
    have z4 := k.size
    rw [List.length_map] at z1 z2
    rw [e, nodes_int, nodes_ints]
    omega

/-! ### the law's own look -/
section
variable {h : MH} {Q : DK} {E : DXK} {c0 v0 w0 : PyData} {fs : List Fate} {vers : List Ver}
/-- o is on for the writer wr at the view -/
def isOn (fs : List Fate) (o wr : Option Int) (view : Int) : Bool := match o with
  | none => false
  | some i => decide (wr = some i) || doneBy fs o view
theorem shaped_opt {wr : Option Int} : SeqAt.shaped (optE wr) = true := by cases wr <;> rfl
def onV (fs : List Fate) (wr : Option Int) (view : Int) (v : Ver) : Bool := isOn fs (some v.maker) wr view && !isOn fs v.ender wr view
end

/-! ### .. all that is seen -/
section
variable {h : MH} {Q : DK} {E : DXK} {c0 v0 w0 : PyData} {fs : List Fate} {vers : List Ver}
end

/-! ### own errors: steps of readings -/
def raiseK (E : DXS) (n f : Str) (σ : DSt) : List SV → MH → Prop := fun xs h1 => match fzs xs h1 with
  | some ([d], h2) => E ⟨n, [(f, d)]⟩ σ h2
  | _ => False
theorem e_raise {E : DXS} {n f : Str} {t : DTA} {D : DEnds} {σ : DSt} {h : MH} (k : t σ h (raiseK E n f σ)) : dRaise1 E n f t D σ h := k
theorem k_raise {E : DXS} {n f : Str} {σ : DSt} {d : PyData} {h : MH} (k : E ⟨n, [(f, d)]⟩ σ h) : raiseK E n f σ [.d d] h := k
theorem restrX_self {h : MH} : restrX h h = h := by
  funext b
  unfold restrX
  cases q : h b with
  | none => rfl
  | some o => rfl
theorem e_isX {kt : Str → Str → Option Bool} {i : Nat} {a : Addr} {y : DExc} {n : Str} {σ : DSt} {h : MH} {Q : DK} {b : Bool} (e : slot σ i = some (.own a)) (e1 : kt y.cls n = some b) (k : Q (.d (.bool b)) h) : dIsX kt i a y n σ h Q := ⟨e, by rw [e1]; exact k⟩
theorem e_isXT {kt : Str → Str → Option Bool} {i : Nat} {a : Addr} {y : DExc} {n : Str} {ns : List Str} {σ : DSt} {h : MH} {Q : DK} {b : Bool} (e : slot σ i = some (.own a)) (e0 : (kt y.cls n).isSome = true) (l : ns.length + 1 ≤ 100) (e1 : anyK kt y.cls (n :: ns) = some b) (k : Q (.d (.bool b)) h) : dIsXT kt i a y n ns σ h Q :=
  ⟨e, e0, by rw [sizeLine_eq]; omega, by rw [e1]; exact k⟩
theorem e_xf {xt : Str → Str → Bool} {i : Nat} {a : Addr} {y : DExc} {f : Str} {σ : DSt} {h : MH} {Q : DK} {d : PyData} (e : slot σ i = some (.own a)) (e0 : xt y.cls f = true) (e1 : y.fs.lookup f = some d) (k : Q (.d d) h) : dXf xt i a y f σ h Q := ⟨e, e0, by rw [e1]; exact k⟩
/-! ### writers -/
/-- the error that tells a writer that is not there -/
abbrev noW (w : Int) : DExc := ⟨"NoWriter", [("number", .int w)]⟩
def inR (n : Nat) (w : Int) : Bool := decide (0 ≤ w) && decide (w < n)
theorem inR_of {n : Nat} {w : Int} (h : inR n w = true) : 0 ≤ w ∧ w < n := by
  unfold inR at h
  simpa using h
def viewAt (vw : List Int) (w : Int) : Int := (vw[w.toNat]?).getD 0
theorem view_at {vw : List Int} {w : Int} (h : inR vw.length w = true) : atI (vw.map PyData.int) w = some (.int (viewAt vw w)) := by
  obtain ⟨h0, h1⟩ := inR_of h
  obtain ⟨f, e1, e2⟩ := at_map (g := PyData.int) h0 h1
  rw [e2]
  unfold viewAt
  rw [e1]
  rfl
section
variable {h : MH} {Q : DK} {E : DXK} {c0 v0 w0 : PyData} {fs : List Fate} {vw : List Int} {w : Int}
theorem w_need (k1 : inR fs.length w = true → Q (.d .none) h) (k2 : inR fs.length w = false → E (noW w) h) : W_need_writer [.d (.tuple [c0, v0, .tuple (fs.map Fate.enc), w0]), .d (.int w)] h Q E := by
  refine fnW_mk rfl ?_
  unfold t_need_writer
  show dIfS _ _ _ _ [some (.d (.tuple [c0, v0, .tuple (fs.map Fate.enc), w0])), some (.d (.int w))] h
  walk_at "dl"
  refine k_or (fun q => ?_) fun q => ?_
  · refine k_ifT ?_
    refine e_raise ?_
    walk_at "dl"
    refine k_raise ?_
    show E _ (restrX h h)
    rw [restrX_self]
    refine k2 ?_
    unfold inR
    have : w < 0 := of_decide_eq_true q
    rw [decide_eq_false (by omega)]
    rfl
  · have q0 : ¬ w < 0 := of_decide_eq_false q
    walk_at "dl"
    refine k_if (fun z => ?_) fun z => ?_
    · refine e_raise ?_
      walk_at "dl"
      refine k_raise ?_
      show E _ (restrX h h)
      rw [restrX_self]
      refine k2 ?_
      have z' : ((fs.map Fate.enc).length : Int) ≤ w := of_decide_eq_true z
      rw [List.length_map] at z'
      unfold inR
      rw [decide_eq_false (p := w < (fs.length : Int)) (by omega), Bool.and_false]
    · walk_at "dl"
      rw [restr_self]
      refine k1 ?_
      have z' : ¬ ((fs.map Fate.enc).length : Int) ≤ w := of_decide_eq_false z
      rw [List.length_map] at z'
      unfold inR
      rw [decide_eq_true (p := w < (fs.length : Int)) (by omega), decide_eq_true (p := 0 ≤ w) (by omega)]
      rfl
theorem w_ison {o : Option Int} (hv : vw.length = fs.length) (hi : InF fs o) (k1 : inR fs.length w = true → Q (.d (.bool (isOn fs o (some w) (viewAt vw w)))) h) (k2 : inR fs.length w = false → E (noW w) h) :
    W_is_on [.d (.tuple [c0, v0, .tuple (fs.map Fate.enc), .tuple (vw.map PyData.int)]), .d (optE o), .d (.int w)] h Q E := by
  refine fnW_mk rfl ?_
  unfold t_is_on
  show dSeq _ _ _ [some (.d (.tuple [c0, v0, .tuple (fs.map Fate.enc), .tuple (vw.map PyData.int)])), some (.d (optE o)), some (.d (.int w))] h
  walk_at "dl"
  refine w_need (fun q => ?_) fun q => ?_
  · have k := k1 q
    walk_at "dl"
    cases o with
    | none =>
      refine k_andV (fun z => absurd z (by simp [optE, isNone])) fun _ => ?_
      walk_at "dl"
      rw [restr_self]
      exact k
    | some i =>
      refine k_andV (fun _ => ?_) fun z => absurd z (by simp [optE, isNone])
      show dOrV _ _ [some (.d (.tuple [c0, v0, .tuple (fs.map Fate.enc), .tuple (vw.map PyData.int)])), some (.d (.int i)), some (.d (.int w))] h _
      walk_at "dl"
      have e3 : isOn fs (some i) (some w) (viewAt vw w) = (decide (i = w) || doneBy fs (some i) (viewAt vw w)) := by
        show (decide (some w = some i) || _) = _
        by_cases q : i = w
        · subst q; simp
        · rw [decide_eq_false q, decide_eq_false fun z => q (by cases z; rfl)]
      rw [e3] at k
      refine k_orV (fun z => ?_) fun z => ?_
      · rw [z] at k
        walk_at "dl"
        rw [restr_self]
        exact k
      · rw [z] at k
        walk_at "dl"
        refine r_ixT (view_at (by rw [hv]; exact q)) ?_
        walk_at "dl"
        refine w_done_by (o := some i) hi ?_
        walk_at "dl"
        rw [restr_self]
        exact k
  · show E _ (restrX h h)
    rw [restrX_self]
    exact k2 q
theorem w_sees {v : Ver} (hv : vw.length = fs.length) (hi : InV fs v) (k1 : inR fs.length w = true → Q (.d (.bool (onV fs (some w) (viewAt vw w) v))) h) (k2 : inR fs.length w = false → E (noW w) h) :
    W_sees [.d (.tuple [c0, v0, .tuple (fs.map Fate.enc), .tuple (vw.map PyData.int)]), .d v.enc, .d (.int w)] h Q E := by
  refine fnW_mk rfl ?_
  unfold t_sees
  show dRet _ _ [some (.d (.tuple [c0, v0, .tuple (fs.map Fate.enc), .tuple (vw.map PyData.int)])), some (.d v.enc), some (.d (.int w))] h
  walk_at "dl"
  refine w_ison (o := some v.maker) hv hi.ma (fun q => ?_) fun q => ?_
  · have k := k1 q
    unfold onV at k
    refine k_andV (fun z => ?_) fun z => ?_
    · rw [z] at k
      walk_at "dl"
      refine w_ison hv hi.en (fun _ => ?_) fun q' => by rw [q] at q'; cases q'
      walk_at "dl"
      rw [restr_self]
      exact k
    · rw [z] at k
      walk_at "dl"
      rw [restr_self]
      exact k
  · show E _ (restrX h h)
    rw [restrX_self]
    exact k2 q
end

/-! ### more -/
theorem b_reprT {Q : DK} {h : MH} {d : PyData} {t : Str} (c : reprOk d) (e : d.shown = t) (k : Q (.d (.str t)) h) : rdRepr [.d d] h Q := by
  subst e
  exact b_repr c k
section
variable {h : MH} {Q : DK} {E : DXK} {c0 v0 w0 : PyData} {fs : List Fate} {vw : List Int} {w : Int}
end
def goneF (fs : List Fate) (i : Int) : Bool := match fs[i.toNat]? with
  | some .gone => true
  | _ => false
theorem at_zero {d : PyData} {r : List PyData} : atI (d :: r) 0 = some d := by
  unfold atI ixN
  rw [if_pos (by omega), if_pos (by simp)]
  rfl
section
variable {h : MH} {Q : DK} {E : DXK} {c0 v0 w0 : PyData} {fs : List Fate} {vers : List Ver}
theorem gone_at {i : Int} (h0 : 0 ≤ i) (h1 : i < fs.length) : ∃ x r, atI (fs.map Fate.enc) i = some (.tuple (.str x :: r)) ∧ (x == ("gone" : Str)) = goneF fs i ∧ PyData.eqv (.tuple (.str x :: r)) (.tuple [.str "gone"]) = goneF fs i ∧ SeqAt.shaped (.tuple (.str x :: r)) = true := by
  obtain ⟨f, e1, e2⟩ := at_map (g := Fate.enc) h0 h1
  have e3 : goneF fs i = match some f with
      | some .gone => true
      | _ => false := by
    show (match fs[i.toNat]? with
      | some .gone => true
      | _ => false) = _
    rw [e1]
  rw [e2, e3]
  cases f with
  | live => exact ⟨_, _, rfl, by decide +kernel, by decide +kernel, by decide +kernel⟩
  | gone => exact ⟨_, _, rfl, by decide +kernel, by decide +kernel, by decide +kernel⟩
  | done n => exact ⟨_, _, rfl, (show ((("done" : Str) == ("gone" : Str)) = false) by decide +kernel), by simp [PyData.eqv, PyData.eqvAll], shaped_ok (n := 1) (by decide) (by simp [dOk]; decide +kernel)⟩
end
/-! tuples as targets -/
section
variable {D : DEnds} {σ : DSt} {h : MH}
theorem k_tg2 {i' j' : Nat} {a b : PyData} (k : D.nx ((σ.set i' (some (.d a))).set j' (some (.d b))) h) : asgK (.tup [i', j']) D σ (.d (.tuple [a, b])) h := k_tg rfl k
theorem k_tg3 {i' j' l' : Nat} {a b c : PyData} (k : D.nx (((σ.set i' (some (.d a))).set j' (some (.d b))).set l' (some (.d c))) h) : asgK (.tup [i', j', l']) D σ (.d (.tuple [a, b, c])) h := k_tg rfl k
theorem bind3 {i' j' l' : Nat} {a b c : PyData} : bindT (.tup [i', j', l']) (.d (.tuple [a, b, c])) σ = some (((σ.set i' (some (.d a))).set j' (some (.d b))).set l' (some (.d c))) := rfl
theorem k_tg4 {i' j' l' m' : Nat} {a b c d : PyData} (k : D.nx ((((σ.set i' (some (.d a))).set j' (some (.d b))).set l' (some (.d c))).set m' (some (.d d))) h) : asgK (.tup [i', j', l', m']) D σ (.d (.tuple [a, b, c, d])) h := k_tg rfl k
theorem k_tg5 {i' j' l' m' n' : Nat} {a b c d e : PyData} (k : D.nx (((((σ.set i' (some (.d a))).set j' (some (.d b))).set l' (some (.d c))).set m' (some (.d d))).set n' (some (.d e))) h) : asgK (.tup [i', j', l', m', n']) D σ (.d (.tuple [a, b, c, d, e])) h := k_tg rfl k
theorem k_tg6 {i' j' l' m' n' o' : Nat} {a b c d e f : PyData} (k : D.nx ((((((σ.set i' (some (.d a))).set j' (some (.d b))).set l' (some (.d c))).set m' (some (.d d))).set n' (some (.d e))).set o' (some (.d f))) h) : asgK (.tup [i', j', l', m', n', o']) D σ (.d (.tuple [a, b, c, d, e, f])) h := k_tg rfl k
end
/-! ### small data, composed -/
def Sml (n c : Nat) (d : PyData) : Prop := sOk n d = true ∧ nodes n d ≤ c
def SmlL (n c : Nat) (xs : List PyData) : Prop := (∀ x ∈ xs, sOk n x = true) ∧ (xs.map (nodes n)).sum ≤ c
theorem Sml.repr {n c : Nat} {d : PyData} (h : Sml n c d) (hn : n ≤ 32 := by decide) (hc : c ≤ 600000 := by first | decide | omega) : reprOk d := reprOk_of hn h.1 (by have := h.2; omega)
theorem Sml.shaped {n c : Nat} {d : PyData} (h : Sml n c d) (hn : n ≤ 64 := by decide) : SeqAt.shaped d = true := shaped_ok hn (sOk_dOk n d h.1)
theorem Sml.up {n m c c' : Nat} {d : PyData} (h : Sml n c d) (hn : n ≤ m := by decide) (hc : c ≤ c' := by first | decide | omega) : Sml m c' d := ⟨sOk_up n m d hn h.1, by rw [nodes_up n m d hn h.1]; exact Nat.le_trans h.2 hc⟩
theorem SmlL.up {n m c c' : Nat} {d : List PyData} (h : SmlL n c d) (hn : n ≤ m := by decide) (hc : c ≤ c' := by first | decide | omega) : SmlL m c' d := ⟨fun x hx => sOk_up n m x hn (h.1 x hx), by
  rw [List.map_congr_left fun x hx => nodes_up n m x hn (h.1 x hx)]
  exact Nat.le_trans h.2 hc⟩
theorem SmlL.nil {n : Nat} : SmlL n 0 [] := ⟨fun x hx => (by cases hx), by simp⟩
theorem SmlL.cons {n a b : Nat} {x : PyData} {xs : List PyData} (h : Sml n a x) (t : SmlL n b xs) : SmlL n (a + b) (x :: xs) := ⟨fun y hy => by
  rcases List.mem_cons.mp hy with rfl | q
  · exact h.1
  · exact t.1 y q, by rw [List.map_cons, List.sum_cons]; exact Nat.add_le_add h.2 t.2⟩
theorem SmlL.all {n c k : Nat} {xs : List PyData} (h : ∀ x ∈ xs, Sml n c x) (hl : xs.length ≤ k) : SmlL n (c * k) xs := ⟨fun x hx => (h x hx).1, Nat.le_trans (nodes_le fun x hx => (h x hx).2) (Nat.mul_le_mul_left _ hl)⟩
theorem SmlL.tup {n c : Nat} {xs : List PyData} (h : SmlL n c xs) : Sml (n + 1) (c + 1) (.tuple xs) := ⟨sOk_tup h.1, by
  have e : nodes (n + 1) (.tuple xs) = 1 + (xs.map (nodes n)).sum := rfl
  rw [e]; have := h.2; omega⟩
theorem SmlL.lst {n c : Nat} {xs : List PyData} (h : SmlL n c xs) : Sml (n + 1) (c + 1) (.list xs) := ⟨sOk_lst h.1, by
  have e : nodes (n + 1) (.list xs) = 1 + (xs.map (nodes n)).sum := rfl
  rw [e]; have := h.2; omega⟩
theorem Sml.none {n : Nat} : Sml n 1 .none := ⟨sOk_none, by cases n <;> exact Nat.le_refl 1⟩
theorem Sml.bool {n : Nat} {b : Bool} : Sml n 1 (.bool b) := ⟨by cases n <;> rfl, by cases n <;> exact Nat.le_refl 1⟩
theorem Sml.int {n : Nat} {i : Int} (h : -(10 ^ 19) ≤ i ∧ i ≤ 10 ^ 19) : Sml n 1 (.int i) := ⟨sOk_int h, by rw [nodes_int]; exact Nat.le_refl 1⟩
theorem Sml.str {n : Nat} {x : Str} (h : (PySem.PyData.strOk x && decide ((reprText x).length ≤ 24)) = true := by decide +kernel) : Sml n 1 (.str x) := ⟨by cases n <;> exact h, by cases n <;> exact Nat.le_refl 1⟩
theorem VerIn.sml {v : Ver} (k : VerIn v) : Sml 2 17 v.enc := ⟨k.sOk, k.nodes⟩
theorem vers_sml {l : List Ver} {k : Nat} (h : ∀ v ∈ l, VerIn v) (hl : l.length ≤ k) : SmlL 2 (17 * k) (l.map Ver.enc) := SmlL.all (fun x hx => by
  obtain ⟨v, hv, rfl⟩ := List.mem_map.mp hx
  exact (h v hv).sml) (by rw [List.length_map]; exact hl)
/-! ### all that is seen -/
section
variable {h : MH} {Q : DK} {E : DXK} {c0 v0 w0 : PyData} {fs : List Fate} {vw : List Int} {vers : List Ver} {w : Int}
end
/-! ### scans -/
theorem e_callK {E : DXS} {W : DSp} {z : Shape} {t tk : DTA} {σ : DSt} {h : MH} {Q : DK} (k : t σ h fun xs h1 => tk σ h1 fun zs h2 => xs.length = z.n ∧ zs.length = z.ks.length ∧ W (xs ++ pick z.cs (z.dm.map SV.d) zs) h2 Q fun x h3 => E x σ h3) : dCallK E W z t tk σ h Q := k
theorem leD_trans {m : Nat} (a b c : PyData) (h1 : leD m a b = true) (h2 : leD m b c = true) : leD m a c = true := by
  unfold leD leL at h1 h2 ⊢
  rw [Bool.not_eq_true'] at h1 h2 ⊢
  exact lex_trans _ _ _ h1 h2
theorem leD_total {m : Nat} (a b : PyData) : (leD m a b || leD m b a) = true := by
  unfold leD leL
  cases q : lexL (keyD m b) (keyD m a) with
  | false => rfl
  | true => rw [lex_asym _ _ q]; rfl
def keyAt (v : Ver) (c : Int) : Int := (v.vals[c.toNat]?).getD 0
abbrev tripS (c : Int) (v : Ver) : PyData := .tuple [.int (keyAt v c), .int v.row, .int v.place]
def inB (lo hi : Option Int) (k : Int) : Bool := lo.all (fun a => decide (a ≤ k)) && hi.all (fun b => decide (k ≤ b))
def scanS (c : Int) (l : List Ver) : List Ver := l.mergeSort fun v u => leD 3 (tripS c v) (tripS c u)
theorem scanS_enc (c : Int) (l : List Ver) : (l.map (tripS c)).mergeSort (leD 3) = (scanS c l).map (tripS c) := (PySem.W.sort_maps (tripS c) fun _ _ _ _ => rfl).symm
theorem scanS_perm (c : Int) (l : List Ver) : (scanS c l).Perm l := List.mergeSort_perm _ _
theorem tup3_ok (c : Int) (l : List Ver) : tupOk 3 (l.map (tripS c)) := by
  refine ⟨by decide, fun d hd => ?_, ?_⟩
  · obtain ⟨v, _, rfl⟩ := List.mem_map.mp hd
    exact ⟨[keyAt v c, v.row, v.place], [], rfl, rfl⟩
  · refine List.pairwise_map.mpr (List.pairwise_of_forall fun v u ns r r' hn e1 e2 => ?_)
    have a := congrArg (fun d : PyData => match d with
      | .tuple xs => xs.length
      | _ => 0) e1
    have b := congrArg (fun d : PyData => match d with
      | .tuple xs => xs.length
      | _ => 0) e2
    simp at a b
    exact ⟨List.eq_nil_of_length_eq_zero (by omega), List.eq_nil_of_length_eq_zero (by omega)⟩
section
variable {h : MH} {Q : DK} {E : DXK} {c0 v0 w0 : PyData} {fs : List Fate} {vw : List Int} {vers : List Ver} {w : Int} {σ : DSt} {QB : Bool → MH → Prop}
theorem key_at {v : Ver} {c : Int} (h0 : 0 ≤ c) (h1 : c < v.vals.length) : atI (v.vals.map PyData.int) c = some (.int (keyAt v c)) := by
  obtain ⟨f, e1, e2⟩ := at_map (g := PyData.int) h0 h1
  rw [e2]
  unfold keyAt
  rw [e1]
  rfl
end

/-! ### steps: zip, enumerate, min, extend -/
section
variable {σ : DSt} {h h2 : MH} {Q : DK} {QL : List PyData → MH → Prop} {ta tb te to : DTE} {tF : DTF} {xs ys ds es : List PyData} {a : Addr} {x y : SV}
def zipK (QL : List PyData → MH → Prop) (x y : SV) (h2 : MH) : Prop := match fz1 x h2 with
  | some (.list ds, h3) => (match fz1 y h3 with
    | some (.list es, h4) => QL (zipD ds es) h4
    | _ => False)
  | some (.tuple ds, h3) => (match fz1 y h3 with
    | some (.tuple es, h4) => QL (zipD ds es) h4
    | _ => False)
  | _ => False
theorem e_wZip (k : ta σ h fun x h1 => tb σ h1 fun y h2 => zipK QL x y h2) : wZip ta tb σ h QL := k
theorem k_zipT (k : QL (zipD ds es) h) : zipK QL (.d (.tuple ds)) (.d (.tuple es)) h := k
theorem k_zipL (k : QL (zipD ds es) h) : zipK QL (.d (.list ds)) (.d (.list es)) h := k
def enumK (QL : List PyData → MH → Prop) (x : SV) (h1 : MH) : Prop := match fz1 x h1 with
  | some (.list ds, h2) => QL (enumD ds) h2
  | some (.tuple ds, h2) => QL (enumD ds) h2
  | _ => False
theorem e_wEnum (k : te σ h (enumK QL)) : wEnum te σ h QL := k
theorem k_enumT (k : QL (enumD ds) h) : enumK QL (.d (.tuple ds)) h := k
theorem k_enumL (k : QL (enumD ds) h) : enumK QL (.d (.list ds)) h := k
def minK (Q : DK) (x : SV) (h1 : MH) : Prop := match asL h1 x with
  | some ds => PySem.W.AlikeAll ds ∧ PyData.depthAll ds ≤ 60 ∧ (match ds with
    | [] => Q (.d .none) h1
    | y :: ys => Q (.d (PySem.W.minD y ys)) h1)
  | none => False
theorem e_minD (k : te σ h (minK Q)) : dMinD te σ h Q := k
def extE (Q : DK) (x : SV) (ds : List PyData) (h2 : MH) : Prop := match ownL h2 x with
  | some (a, xs) => xs.length + ds.length ≤ sizeLine ∧ Q (.d .none) (mput h2 a (.lst (xs ++ ds)))
  | none => False
def extK (tF : DTF) (σ : DSt) (Q : DK) (x : SV) (h1 : MH) : Prop := match asL h1 x with
  | some _ => tF σ h1 fun ds h2 => extE Q x ds h2
  | none => False
theorem e_ext (k : to σ h (extK tF σ Q)) : dExt to tF σ h Q := k
theorem k_ext (e : h a = some (.lst xs)) (k : tF σ h fun ds h2 => extE Q (.own a) ds h2) : extK tF σ Q (.own a) h := by
  unfold extK
  rw [asL_own e]
  exact k
theorem r_addT (c : xs.length + ys.length ≤ 16777216) (k : Q (.d (.tuple (xs ++ ys))) h) : rdAdd (.d (.tuple xs)) (.d (.tuple ys)) h Q := ⟨by rw [sizeLine_eq]; exact c, k⟩
theorem r_addOL (e : h a = some (.lst xs)) (c : xs.length + ys.length ≤ 16777216) (k : Q (.d (.list (xs ++ ys))) h) : rdAdd (.own a) (.d (.list ys)) h Q := by
  show (match asL h (.own a), asL h (.d (.list ys)) with
    | some a, some b => a.length + b.length ≤ sizeLine ∧ Q (.d (.list (a ++ b))) h
    | _, _ => False)
  rw [asL_own e]
  exact ⟨by rw [sizeLine_eq]; exact c, k⟩
end

/-! ### first two of a row -/
/-! ### sorted lists of numbers -/
/-! ### why -/
section
variable {h : MH} {Q : DK} {E : DXK} {c0 v0 w0 : PyData} {fs : List Fate} {vw : List Int} {w : Int}
end

/-! ### cuts -/
/-! ### papers: steps -/
section
variable {h : MH} {Q : DK} {E : DXK} {σ : DSt} {D : DEnds}
def raise2K (E : DXS) (n f g : Str) (σ : DSt) : List SV → MH → Prop := fun xs h1 => match fzs xs h1 with
  | some ([d, d2], h2) => E ⟨n, [(f, d), (g, d2)]⟩ σ h2
  | _ => False
theorem e_raise2 {E : DXS} {n f g : Str} {t : DTA} (k : t σ h (raise2K E n f g σ)) : dRaise2 E n f g t D σ h := k
theorem k_raise2 {E : DXS} {n f g : Str} {d d2 : PyData} (k : E ⟨n, [(f, d), (g, d2)]⟩ σ h) : raise2K E n f g σ [.d d, .d d2] h := k
def isK (n : String) (Q : DK) : DK := fun x h1 => match asD h1 x with
  | some d => (match kitB (tyN d) n with
    | some b => Q (.d (.bool b)) h1
    | none => False)
  | none => False
theorem e_isT {te : DTE} {n : String} (k : te σ h (isK n Q)) : dIsT te n σ h Q := k
theorem k_isT {d : PyData} {n t : String} {b : Bool} (e0 : tyN d = t) (e : kitB t n = some b) (k : Q (.d (.bool b)) h) : isK n Q (.d d) h := by
  show (match kitB (tyN d) n with
    | some b => Q (.d (.bool b)) h
    | none => False)
  rw [e0, e]
  exact k
theorem r_inT {x : PyData} {ds : List PyData} (p1 : x.plain = true) (p2 : PyData.plainAll ds = true) (p3 : x.depth ≤ 60) (k : Q (.d (.bool (ds.any fun z => PyData.eqv z x))) h) : rdInT false (.d x) (.d (.tuple ds)) h Q := ⟨p1, p2, p3, k⟩
theorem r_notInT {x : PyData} {ds : List PyData} (p1 : x.plain = true) (p2 : PyData.plainAll ds = true) (p3 : x.depth ≤ 60) (k : Q (.d (.bool (!ds.any fun z => PyData.eqv z x))) h) : rdInT true (.d x) (.d (.tuple ds)) h Q := ⟨p1, p2, p3, k⟩
end
/-! ### papers of what is seen -/
section
variable {h : MH} {Q : DK} {E : DXK} {c0 v0 w0 : PyData} {fs : List Fate} {vw : List Int} {vers : List Ver} {w : Int}
end

/-! ### stands by kind -/
section
variable {h : MH} {Q : DK} {E : DXK} {σ : DSt} {D : DEnds}
end
section
variable {h : MH} {Q : DK} {E : DXK} {fs : List Fate}
end

/-! ### stands by deeds -/
theorem restr_is {h0 h' h2 : MH} {d : PyData} (e : ∀ b, (h0 b).isSome = true → h' b = h2 b) (n : ∀ b, h0 b = none → h2 b = none) : restr h0 h' (.d d) = h2 := by
  funext b
  unfold restr
  cases q : h0 b with
  | none => simp [SV.isOwn, n b q]
  | some o => simp [e b (by rw [q]; rfl)]
theorem on_orD {fs : List Fate} {o : Option Int} {w view : Int} : isOn fs o (some w) view = (decide (o = some w) || doneBy fs o view) := by
  cases o with
  | none => rfl
  | some i =>
    show (decide (some w = some i) || _) = _
    by_cases q : i = w
    · subst q; simp
    · rw [decide_eq_false fun z => q (by cases z; rfl), decide_eq_false fun z => q (by cases z; rfl)]
theorem eqv_optD {e : Option Int} {w : Int} : PyData.eqv (optE e) (.int w) = decide (e = some w) := by
  cases e with
  | none => rfl
  | some i =>
    show PyData.eqv (.int i) (.int w) = _
    rw [eqv_int]
    by_cases q : i = w
    · subst q; simp
    · rw [decide_eq_false q, decide_eq_false fun z => q (by cases z; rfl)]
def isDone : Fate → Bool
  | .done _ => true
  | _ => false
theorem done_nums (fs : List Fate) : (fs.filter isDone).length = (nums fs).length := by
  induction fs with
  | nil => rfl
  | cons f fs ih =>
    unfold nums at ih ⊢
    rw [List.filter_cons, List.filterMap_cons]
    cases f
    · simpa [isDone, Fate.num] using ih
    · simpa [isDone, Fate.num] using ih
    · simpa [isDone, Fate.num] using ih
section
variable {h : MH} {Q : DK} {E : DXK} {fs : List Fate} {view : Int}
theorem w_is_byG {x : SV} {o : Option Int} (hx : asQ h x = some (fs.map Fate.enc)) (hs : asStr x = none) (hi : InF fs o) (k : Q (.d (.bool (doneBy fs o view))) h) : W__law_is_by [x, .d (optE o), .d (.int view)] h Q E := by
  refine fnW_mk rfl ?_
  unfold t__law_is_by
  show dRet _ _ [some x, some (.d (optE o)), some (.d (.int view))] h
  cases o with
  | none =>
    walk_at "dl"
    refine k_andV (fun z => by cases z) fun _ => ?_
    walk_at "dl"
    rw [restr_self]
    exact k
  | some i =>
    obtain ⟨h0, h1⟩ := hi i rfl
    obtain ⟨f, e1, e2⟩ := at_map (g := Fate.enc) h0 h1
    have ev : doneBy fs (some i) view = match f with
        | .done n => decide (n ≤ view)
        | _ => false := by
      unfold doneBy
      simp only [e1]
      cases f <;> rfl
    rw [ev] at k
    walk_at "dl"
    refine k_andV (fun _ => ?_) fun z => by cases z
    walk_at "dl"
    refine r_ix hs hx e2 ?_
    walk_at "dl"
    cases f with
    | live =>
      refine r_ixT at_zero ?_
      walk_at "dl"
      refine k_andV (fun z => absurd z (by decide +kernel)) fun _ => ?_
      walk_at "dl"
      rw [restr_self]
      exact k
    | gone =>
      refine r_ixT at_zero ?_
      walk_at "dl"
      refine k_andV (fun z => absurd z (by decide +kernel)) fun _ => ?_
      walk_at "dl"
      rw [restr_self]
      exact k
    | done n =>
      refine r_ixT at_zero ?_
      walk_at "dl"
      refine k_andV (fun _ => ?_) fun z => absurd z (by decide +kernel)
      walk_at "dl"
      refine r_ix hs hx e2 ?_
      walk_at "dl"
      refine r_ixT rfl ?_
      walk_at "dl"
      rw [restr_self]
      exact k
theorem w_seesG {x yf yv : SV} {vw : List Int} {v : Ver} {w : Int} (h2 : ∀ Q : DK, Q yf h → rdIx x (.d (.int 2)) h Q) (h3 : ∀ Q : DK, Q yv h → rdIx x (.d (.int 3)) h Q) (hf : asQ h yf = some (fs.map Fate.enc)) (sf : asStr yf = none)
    (hv : asQ h yv = some (vw.map PyData.int)) (sv : asStr yv = none) (hw : inR vw.length w = true) (hi : InV fs v) (k : Q (.d (.bool (onV fs (some w) (viewAt vw w) v))) h) : W__law_sees [x, .d v.enc, .d (.int w)] h Q E := by
  refine fnW_mk rfl ?_
  unfold t__law_sees
  show dSeq _ _ _ [some x, some (.d v.enc), some (.d (.int w)), none, none] h
  have e0 : onV fs (some w) (viewAt vw w) v = ((decide (v.maker = w) || doneBy fs (some v.maker) (viewAt vw w)) && (!decide (v.ender = some w) && !doneBy fs v.ender (viewAt vw w))) := by
    unfold onV
    rw [on_orD, on_orD]
    have e1 : decide (some v.maker = some w) = decide (v.maker = w) := by
      by_cases q : v.maker = w
      · subst q; simp
      · rw [decide_eq_false q, decide_eq_false fun z => q (by cases z; rfl)]
    rw [e1]
    cases decide (v.ender = some w) <;> simp
  rw [e0] at k
  walk_at "dl"
  refine h2 _ ?_
  walk_at "dl"
  refine h3 _ ?_
  walk_at "dl"
  refine r_ix sv hv (view_at hw) ?_
  walk_at "dl"
  have fin2 : ∀ b1 : Bool, (b1 && (!decide (v.ender = some w) && !doneBy fs v.ender (viewAt vw w))) = ((decide (v.maker = w) || doneBy fs (some v.maker) (viewAt vw w)) && (!decide (v.ender = some w) && !doneBy fs v.ender (viewAt vw w))) → b1 = true →
      dRet (dAndV (dOp rdNe (dOp rdIx (dVar 1) (dC (.int 4))) (dVar 2)) (dNotV (dCall noX W__law_is_by (dCons (dVar 3) (dCons (dOp rdIx (dVar 1) (dC (.int 4))) (dCons (dVar 4) dNil)))))) (dEnd h Q) [some x, some (.d v.enc), some (.d (.int w)), some yf, some (.d (.int (viewAt vw w)))] h := fun b1 hb hb1 => by
    subst hb1
    rw [← hb] at k
    walk_at "dl"
    refine r_ne rfl rfl shaped_opt (shaped_int _) ?_
    rw [eqv_optD]
    refine k_andV (fun q => ?_) fun q => ?_
    · rw [q] at k
      walk_at "dl"
      refine w_is_byG hf sf hi.en ?_
      walk_at "dl"
      rw [restr_self]
      simpa using k
    · rw [q] at k
      walk_at "dl"
      rw [restr_self]
      simpa using k
  refine k_and (fun q1 => ?_) fun q1 => ?_
  · walk_at "dl"
    refine w_is_byG (o := some v.maker) hf sf hi.ma ?_
    walk_at "dl"
    refine k_if (fun q2 => ?_) fun q2 => ?_
    · walk_at "dl"
      rw [restr_self]
      have a1 : decide (v.maker = w) = false := by simpa using q1
      have a2 : doneBy fs (some v.maker) (viewAt vw w) = false := by simpa using q2
      rw [a1, a2] at k
      simpa using k
    · refine e_next ?_
      have a1 : decide (v.maker = w) = false := by simpa using q1
      have a2 : doneBy fs (some v.maker) (viewAt vw w) = true := by simpa using q2
      exact fin2 true (by rw [a1, a2]; simp) rfl
  · refine k_if (fun z => by cases z) fun _ => ?_
    refine e_next ?_
    have a1 : decide (v.maker = w) = true := by simpa using q1
    exact fin2 true (by rw [a1]; simp) rfl
theorem w_many_doneO {a : Addr} (ha : h a = some (.lst (fs.map Fate.enc))) (hl : fs.length ≤ 1000) (k : Q (.d (.int (nums fs).length)) h) : W__law_many_done [.own a] h Q E := by
  refine fnW_mk rfl ?_
  unfold t__law_many_done
  show dRet _ _ [some (.own a), none] h
  walk_at "dl"
  refine k_lcGO (out := Fate.enc) isDone ha (by omega) (fun f hf => ⟨_, rfl, fun K hK => ?_, fun _ K hK => ?_⟩) ?_
  · walk_at "dl"
    cases f with
    | live => refine r_ixT at_zero ?_; walk_at "dl"; exact hK
    | gone => refine r_ixT at_zero ?_; walk_at "dl"; exact hK
    | done n => refine r_ixT at_zero ?_; walk_at "dl"; exact hK
  · walk_at "dl"
    exact hK
  walk_at "dl"
  rw [List.length_map, done_nums, restr_self]
  exact k
end
/-- what one deed of a writer makes of the versions -/
inductive Wrote (S : Stand) (wr : Int) : List Ver → Prop where
  | put (row : Int) (vals : List Int) (hr : ∀ v ∈ S.vers, v.row < row) (h0 : 0 ≤ row ∧ row ≤ S.vers.length) (hl : vals.length = S.cols.toNat) (hb : ∀ x ∈ vals, -999 ≤ x ∧ x ≤ 999) : Wrote S wr (S.vers ++ [⟨S.vers.length, row, vals, wr, none, S.vers.length⟩])
  | strike (i : Nat) (v : Ver) (hi : S.vers[i]? = some v) (hs : onV S.fates (some wr) (viewAt S.views wr) v = true) (he : ∀ j, v.ender = some j → S.fates[j.toNat]? = some .gone) : Wrote S wr (S.vers.set i { v with ender := some wr })
  | turn (i : Nat) (v : Ver) (vals : List Int) (root : Int) (hi : S.vers[i]? = some v) (hs : onV S.fates (some wr) (viewAt S.views wr) v = true) (he : ∀ j, v.ender = some j → S.fates[j.toNat]? = some .gone)
      (hl : vals.length = S.cols.toNat) (hb : ∀ x ∈ vals, -999 ≤ x ∧ x ≤ 999) (hr : root = S.vers.length ∨ root = v.root) : Wrote S wr (S.vers.set i { v with ender := some wr } ++ [⟨S.vers.length, v.row, vals, wr, none, root⟩])
structure DeedOk (S : Stand) : Prop where
  ok : StandOk S
  at_ : ∀ i v, S.vers[i]? = some v → v.place = ((i : Nat) : Int)
  row : ∀ v ∈ S.vers, v.row < S.vers.length
theorem ver_at {S : Stand} {i : Int} (h0 : 0 ≤ i) (h1 : i < S.vers.length) : ∃ v, S.vers[i.toNat]? = some v ∧ v ∈ S.vers ∧ atI (S.vers.map Ver.enc) i = some v.enc := by
  obtain ⟨v, e1, e2⟩ := at_map (g := Ver.enc) h0 h1
  exact ⟨v, e1, List.mem_of_getElem? e1, e2⟩
def freeB (S : Stand) (i : Int) : Bool := match S.vers[i.toNat]? with
  | some v => match v.ender with
    | none => true
    | some j => match S.fates[j.toNat]? with
      | some f => PyData.eqv f.enc (.tuple [.str "gone"])
      | none => false
  | none => false
def seesB (S : Stand) (wr i : Int) : Bool := match S.vers[i.toNat]? with
  | some v => onV S.fates (some wr) (viewAt S.views wr) v
  | none => false
theorem eqv_goneD {f : Fate} : PyData.eqv f.enc (.tuple [.str "gone"]) = true → f = .gone := by
  cases f with
  | live => exact fun z => absurd z (by decide +kernel)
  | gone => exact fun _ => rfl
  | done i => exact fun z => absurd z (by simp [Fate.enc, PyData.eqv, PyData.eqvAll])
theorem fate_shapedD {f : Fate} : SeqAt.shaped f.enc = true := by
  cases f with
  | live => exact shaped_ok (n := 1) (by decide) (by decide +kernel)
  | gone => exact shaped_ok (n := 1) (by decide) (by decide +kernel)
  | done i => exact shaped_ok (n := 1) (by decide) (by simp [Fate.enc, dOk]; decide +kernel)
local macro_rules | `(tactic| walk_at "fd1") => `(tactic| first
  | walk_at "dl1"
  | ((with_reducible apply r_ixD); walk_at "hp"; exact rfl; (first | exact fv_cells | exact fv_at | exact fv_left | exact fv_turn))
  | ((with_reducible apply k_setD); walk_at "hp"; exact rfl; (show (4 : Nat) < 16777216; decide); (first | rw [fp_at] | rw [fp_left] | rw [fp_turn])))
local macro_rules | `(tactic| walk_at "fd") => `(tactic| repeat walk_at "fd1")
theorem k_orB {b : Bool} {u : DTT} {σ : DSt} {QB : Bool → MH → Prop} {h : MH} {P : Bool → Prop} (main : ∀ c, P c → QB c h) (k1 : b = true → P true) (k2 : b = false → ∀ K : Bool → MH → Prop, (∀ c, P c → K c h) → u σ h K) : orK u σ QB b h := by
  cases b with
  | true => exact main true (k1 rfl)
  | false => exact k2 rfl _ main
theorem ix_at {n i : Nat} (h : i < n) : ixN n (i : Int) = some i := by
  unfold ixN
  rw [if_pos (by omega), if_pos (by omega)]
  rfl
section
variable {h : MH} {Q : DK} {E : DXK}
theorem w_written {a ps pf pv : Addr} {o : MO} {sc : List Int} {C wr way : Int} {S : Stand} (ha : h a = some o) (F : FdD sc C o) (hs : sc.length ≤ 63) (hC : C ≤ 10 ^ 11) (d : DeedOk S) (hp : h ps = some (.lst (S.vers.map Ver.enc))) (hf : h pf = some (.lst (S.fates.map Fate.enc)))
    (hv : h pv = some (.lst (S.views.map PyData.int))) (n1 : ps ≠ a) (n2 : ps ≠ pf) (n3 : ps ≠ pv) (n4 : a ≠ pf) (n5 : a ≠ pv) (hw : inR S.fates.length wr = true)
    (k : ∀ vs o', Wrote S wr vs → FdD sc (C + 20) o' → Q (.d .none) (mput (mput h ps (.lst (vs.map Ver.enc))) a o')) : W__law_written [.own a, .d (.int S.cols), .own ps, .own pf, .own pv, .d (.int wr), .d (.int way)] h Q E := by
  have ok := d.ok
  have hcol := ok.cols
  have hm := ok.many
  have hsz := ok.size
  have hvl := ok.views
  have inV : ∀ v ∈ S.vers, InV S.fates v := fun v hv => (ok.vers v hv).inV
  have hsomeA : (h a).isSome = true := by rw [ha]; rfl
  have hsomeP : (h ps).isSome = true := by rw [hp]; rfl
  have hwv : inR S.views.length wr = true := by rw [hvl]; exact hw
  refine fnW_mk rfl ?_
  unfold t__law_written
  show dSeq _ _ _ [some (.own a), some (.d (.int S.cols)), some (.own ps), some (.own pf), some (.own pv), some (.d (.int wr)), some (.d (.int way)), none, none, none, none, none, none, none, none, none, none] h
  walk_at "fd"
  refine k_wRg1 ⟨by omega, by omega⟩ ?_
  rw [rg0]
  refine ⟨by rw [sizeLine_eq, List.length_map, rgI_len]; omega, ?_⟩
  refine lc_inv (fun r acc h' => ∃ (l rI vals : List Int) (o' : MO), rgI S.cols = l ++ rI ∧ r = rI.map PyData.int ∧ acc = vals.map PyData.int ∧ vals.length = l.length ∧ (∀ x ∈ vals, -999 ≤ x ∧ x ≤ 999) ∧ h' = mput h a o' ∧ FdD sc (C + l.length) o') ?_ ?_ _ [] _
    ⟨[], rgI S.cols, [], o, rfl, rfl, rfl, rfl, (fun x hx => by cases hx), (put_id ha).symm, by simpa using F⟩
  · rintro d r acc h' K ⟨l, rI, vals, o', el, er, rfl, hl, hb, rfl, F'⟩ hK
    obtain ⟨x, rI', rfl, rfl, rfl⟩ := map_cons_inv er
    have hll : l.length < 3 := by
      have z := congrArg List.length el
      rw [rgI_len] at z
      simp at z
      omega
    refine ⟨_, rfl, ?_⟩
    walk_at "fd"
    refine k_lc (fun _ => ?_) (fun q => by cases q)
    walk_at "fd"
    refine w_drawD put_same F' hs (by omega) ⟨by decide, by decide⟩ fun v o2 v0 v1 F2 => ?_
    rw [put_put]
    obtain ⟨d1, e1, e2⟩ := at_get (xs := [PyData.int 0, .int 1, .int 2, .int 5, .int (-999), .int 999]) v0 (by simpa using v1)
    obtain ⟨y, rfl, hy⟩ : ∃ y : Int, d1 = .int y ∧ -999 ≤ y ∧ y ≤ 999 := by
      simp only [List.mem_cons, List.not_mem_nil, or_false] at e2
      rcases e2 with e2 | e2 | e2 | e2 | e2 | e2 <;> exact ⟨_, e2, by omega, by omega⟩
    refine r_ixL e1 ?_
    refine k_lcE (hK _ _ ⟨l ++ [x], rI', vals ++ [y], o2, by rw [el]; simp, rfl, by simp, by simp [hl], fun z hz => ?_, rfl, F2.up (by simp; omega)⟩)
    rcases List.mem_append.mp hz with q | q
    · exact hb z q
    · rw [List.mem_singleton.mp q]; exact hy
  · rintro acc h' ⟨l, rI, vals, o1, el, er, rfl, hl, hvb, rfl, F1⟩
    have e0 : rI = [] := by
      cases rI with
      | nil => rfl
      | cons _ _ => cases er
    subst e0
    rw [List.append_nil] at el
    have hll : l.length = S.cols.toNat := by rw [← el, rgI_len]
    have hvl3 : vals.length = S.cols.toNat := by rw [hl, hll]
    walk_at "fd"
    intro p0 hp0
    have hp00 : h p0 = none := by
      cases z : h p0 with
      | none => rfl
      | some y =>
        by_cases e : p0 = a
        · subst e; rw [put_same] at hp0; cases hp0
        · rw [put_other e, z] at hp0; cases hp0
    have m1 := ne_new ha hp00
    have m2 := ne_new hp hp00
    have m3 := ne_new hf hp00
    have m4 := ne_new hv hp00
    -- the heap from here on: what is at a, at ps may turn
    generalize hHH : mput (mput h a o1) p0 _ = H1
    have gA : H1 a = some o1 := by rw [← hHH, put_other (Ne.symm m1), put_same]
    have gP : H1 ps = some (.lst (S.vers.map Ver.enc)) := by rw [← hHH, put_other (Ne.symm m2), put_other n1, hp]
    have gF : H1 pf = some (.lst (S.fates.map Fate.enc)) := by rw [← hHH, put_other (Ne.symm m3), put_other (Ne.symm n4), hf]
    have gV : H1 pv = some (.lst (S.views.map PyData.int)) := by rw [← hHH, put_other (Ne.symm m4), put_other (Ne.symm n5), hv]
    have gT : H1 p0 = some (.tpl [.d (.int S.cols), .own ps, .own pf, .own pv]) := by rw [← hHH, put_same]
    have gO : ∀ b, b ≠ a → (h b).isSome = true → H1 b = h b := fun b hb hs => by
      have hb0 : b ≠ p0 := fun z => by rw [z, hp00] at hs; cases hs
      rw [← hHH, put_other hb0, put_other hb]
    clear hHH
    have ends : ∀ (vs : List Ver) (o' : MO) (H2 : MH), H2 a = some o' → H2 ps = some (.lst (vs.map Ver.enc)) → (∀ b, b ≠ a → b ≠ ps → (h b).isSome = true → H2 b = h b) → Wrote S wr vs → FdD sc (C + 20) o' → Q (.d .none) (restr h H2 (.d .none)) := fun vs o' H2 q1 q2 q3 q4 q5 => by
      have e : restr h H2 (.d .none) = mput (mput h ps (.lst (vs.map Ver.enc))) a o' := restr_is (fun b hb => by
        by_cases z : b = a
        · subst z; rw [put_same, q1]
        · rw [put_other z]
          by_cases z2 : b = ps
          · subst z2; rw [put_same, q2]
          · rw [put_other z2, q3 b z z2 hb]) fun b hb => by
        rw [put_other (fun z => by rw [z, ha] at hb; cases hb), put_other (fun z => by rw [z, hp] at hb; cases hb), hb]
      rw [e]
      exact k vs o' q4 q5
    walk_at "fd"
    rw [List.length_map]
    refine k_wRg1 ⟨by omega, by omega⟩ ?_
    rw [rg0]
    refine ⟨by rw [sizeLine_eq, List.length_map, rgI_len]; omega, ?_⟩
    refine lc_enc (enc := PyData.int) (out := PyData.int) (seesB S wr) (fun i hi => ⟨_, rfl, fun K hK => ?_, fun _ K hK => ?_⟩) ?_
    · obtain ⟨v, e1, e2, e3⟩ := ver_at (mem_rgI hi).1 (mem_rgI hi).2
      unfold seesB at hK
      simp only [e1] at hK
      walk_at "fd"
      refine r_ixO gP e3 ?_
      walk_at "fd"
      refine w_seesG (yf := .own pf) (yv := .own pv) (fun Q q => r_ixP gT rfl q) (fun Q q => r_ixP gT rfl q) (asQ_own gF) rfl (asQ_own gV) rfl hwv (inV v e2) ?_
      walk_at "fd"
      exact hK
    · walk_at "fd"
      exact hK
    walk_at "fd"
    refine ⟨by rw [sizeLine_eq, List.length_map]; exact Nat.le_trans (List.length_filter_le _ _) (by rw [rgI_len]; omega), ?_⟩
    refine lc_enc (enc := PyData.int) (out := PyData.int) (freeB S) (fun i hi => ⟨_, rfl, fun K hK => ?_, fun _ K hK => ?_⟩) ?_
    · have hi2 := mem_rgI (List.mem_filter.mp hi).1
      obtain ⟨v, e1, e2, e3⟩ := ver_at hi2.1 hi2.2
      have iv := inV v e2
      unfold freeB at hK
      simp only [e1] at hK
      obtain ⟨vp, vr, vv, vm, ve, vt⟩ := v
      walk_at "fd"
      refine r_ixO gP e3 ?_
      walk_at "fd"
      cases ve with
      | none =>
        refine k_or (fun _ => hK) fun z => by cases z
      | some j =>
        refine k_or (fun z => by cases z) fun _ => ?_
        obtain ⟨h0, h1⟩ := iv.en j rfl
        obtain ⟨f, f1, f2⟩ := at_map (g := Fate.enc) h0 h1
        simp only [f1] at hK
        walk_at "fd"
        refine r_ixO gP e3 ?_
        walk_at "fd"
        refine r_ixO gF f2 ?_
        walk_at "fd"
        refine r_eq rfl rfl fate_shapedD (shaped_ok (n := 1) (by decide) (by decide +kernel)) ?_
        walk_at "fd"
        exact hK
    · walk_at "fd"
      exact hK
    have hfree : ∀ x ∈ ((rgI (S.vers.length : Nat)).filter (seesB S wr)).filter (freeB S), ∃ (i : Nat) (v : Ver), x = (i : Int) ∧ S.vers[i]? = some v ∧ onV S.fates (some wr) (viewAt S.views wr) v = true ∧ ∀ j, v.ender = some j → S.fates[j.toNat]? = some .gone := fun x hx => by
      obtain ⟨h1, h2⟩ := List.mem_filter.mp hx
      obtain ⟨h3, h4⟩ := List.mem_filter.mp h1
      have h5 := mem_rgI h3
      obtain ⟨v, e1, e2, e3⟩ := ver_at h5.1 h5.2
      unfold seesB at h4
      unfold freeB at h2
      simp only [e1] at h2 h4
      refine ⟨x.toNat, v, by omega, e1, h4, fun j hj => ?_⟩
      simp only [hj] at h2
      split at h2
      · rename_i f ef
        rw [ef, eqv_goneD h2]
      · cases h2
    have hfl : (((rgI (S.vers.length : Nat)).filter (seesB S wr)).filter (freeB S)).length ≤ 40 := Nat.le_trans (List.length_filter_le _ _) (Nat.le_trans (List.length_filter_le _ _) (by rw [rgI_len]; omega))
    generalize ((rgI (S.vers.length : Nat)).filter (seesB S wr)).filter (freeB S) = fr at hfree hfl
    walk_at "fd"
    rw [List.length_map]
    refine k_orB (P := fun c => c = false → fr ≠ []) (fun c hc => ?_) (fun _ z => by cases z) fun _ K hK => ?_
    rotate_left
    · walk_at "fd"
      refine r_eq rfl rfl (shaped_ints _) rfl ?_
      walk_at "fd"
      refine hK _ fun z => ?_
      intro e
      subst e
      simp [PyData.eqv, PyData.eqvAll] at z
    refine k_if (fun _ => ?_) fun hc2 => ?_
    · -- a put
      walk_at "fd"
      refine k_lcGO (out := fun v : Ver => PyData.int v.row) (fun _ => true) gP (by omega) (fun v hv => ⟨_, rfl, fun K hK => ?_, fun _ K hK => ?_⟩) ?_
      · walk_at "fd"
        exact hK
      · walk_at "fd"
        exact hK
      have ef : S.vers.filter (fun _ => true) = S.vers := List.filter_eq_self.mpr fun _ _ => rfl
      rw [ef]
      walk_at "fd"
      refine r_addL (by simp; omega) ?_
      walk_at "fd"
      refine ⟨S.vers.map (fun v => v.row) ++ [-1], by simp, by simp, fun m hm1 hm2 => ?_⟩
      have hm0 : -1 ≤ m := hm2 (-1) (by simp)
      have hm3 : ∀ v ∈ S.vers, v.row ≤ m := fun v hv => hm2 _ (List.mem_append_left _ (List.mem_map_of_mem hv))
      have hm4 : m + 1 ≤ S.vers.length := by
        rcases List.mem_append.mp hm1 with z | z
        · obtain ⟨v, hv, rfl⟩ := List.mem_map.mp z
          have := d.row v hv
          omega
        · rw [List.mem_singleton.mp z]; omega
      walk_at "fd"
      refine m_append gP (by rw [List.length_map]; omega) ?_
      walk_at "fd"
      refine ends (S.vers ++ [⟨S.vers.length, m + 1, vals, wr, none, S.vers.length⟩]) o1 _ ((put_other (Ne.symm n1)).trans gA) (by rw [put_same, List.map_append]; rfl) (fun b hb hb2 hs => (put_other hb2).trans (gO b hb hs)) (.put (m + 1) vals (fun v hv => by have := hm3 v hv; omega) ⟨by omega, hm4⟩ hvl3 hvb) (F1.up (by omega))
    · have hne := hc hc2
      have hfl1 : 1 ≤ fr.length := by
        cases fr with
        | nil => exact absurd rfl hne
        | cons _ _ => simp
      refine e_next ?_
      dsimp only
      walk_at "fd"
      rw [List.length_map]
      refine w_drawD gA F1 hs (by omega) ⟨by omega, by omega⟩ fun u o2 u0 u1 F2 => ?_
      have gA2 : mput H1 a o2 a = some o2 := put_same
      have gP2 : mput H1 a o2 ps = some (.lst (S.vers.map Ver.enc)) := (put_other n1).trans gP
      have gO2 : ∀ b, b ≠ a → (h b).isSome = true → mput H1 a o2 b = h b := fun b hb hs => (put_other hb).trans (gO b hb hs)
      generalize mput H1 a o2 = H2 at gA2 gP2 gO2
      obtain ⟨x, f1, f2⟩ := at_map (fs := fr) (g := PyData.int) u0 u1
      refine r_ixL f2 ?_
      obtain ⟨i, v, rfl, e1, e2, e3⟩ := hfree x (List.mem_of_getElem? f1)
      have hi : i < S.vers.length := (List.getElem?_eq_some_iff.mp e1).1
      have e4 : atI (S.vers.map Ver.enc) (i : Int) = some v.enc := at_nat (by rw [List.getElem?_map, e1]; rfl)
      have vm := List.mem_of_getElem? e1
      have vok := ok.vers v vm
      obtain ⟨vp, vr, vv, vmk, ve, vt⟩ := v
      have hvv : vv.length = S.cols.toNat := vok.cols
      have hvb2 : ∀ x ∈ vv, -999 ≤ x ∧ x ≤ 999 := vok.vals
      walk_at "fd"
      refine r_ixO gP2 e4 ?_
      walk_at "fd"
      refine r_addT (by show 6 ≤ 16777216; decide) ?_
      walk_at "fd"
      refine k_set gP2 (ix_at (by rw [List.length_map]; exact hi)) ?_
      have es : (S.vers.map Ver.enc).set i (.tuple (cutD [.int vp, .int vr, .tuple (vv.map PyData.int), .int vmk, optE ve, .int vt] none (some 4) ++ [.int wr, .int vt])) = (S.vers.set i ⟨vp, vr, vv, vmk, some wr, vt⟩).map Ver.enc := by
        rw [List.map_set]
        rfl
      rw [es]
      have gA3 : mput H2 ps (.lst ((S.vers.set i ⟨vp, vr, vv, vmk, some wr, vt⟩).map Ver.enc)) a = some o2 := (put_other (Ne.symm n1)).trans gA2
      have gP3 : mput H2 ps (.lst ((S.vers.set i ⟨vp, vr, vv, vmk, some wr, vt⟩).map Ver.enc)) ps = some (.lst ((S.vers.set i ⟨vp, vr, vv, vmk, some wr, vt⟩).map Ver.enc)) := put_same
      have gO3 : ∀ b, b ≠ a → b ≠ ps → (h b).isSome = true → mput H2 ps (.lst ((S.vers.set i ⟨vp, vr, vv, vmk, some wr, vt⟩).map Ver.enc)) b = h b := fun b hb hb2 hs => (put_other hb2).trans (gO2 b hb hs)
      generalize mput H2 ps (.lst ((S.vers.set i ⟨vp, vr, vv, vmk, some wr, vt⟩).map Ver.enc)) = H3 at gA3 gP3 gO3
      dsimp only
      walk_at "fd"
      refine k_if (fun _ => ?_) fun _ => ?_
      · walk_at "fd"
        refine k_wRg1 ⟨by omega, by omega⟩ ?_
        rw [rg0]
        refine ⟨by rw [sizeLine_eq, List.length_map, rgI_len]; omega, ?_⟩
        refine lc_inv (fun r acc h' => ∃ (l rI vals2 : List Int) (o' : MO), rgI S.cols = l ++ rI ∧ r = rI.map PyData.int ∧ acc = vals2.map PyData.int ∧ vals2.length = l.length ∧ (∀ x ∈ vals2, -999 ≤ x ∧ x ≤ 999) ∧ h' = mput H3 a o' ∧ FdD sc (C + 5 + l.length) o') ?_ ?_ _ [] _
          ⟨[], rgI S.cols, [], o2, rfl, rfl, rfl, rfl, (fun x hx => by cases hx), (put_id gA3).symm, F2.up (by simp; omega)⟩
        · rintro dd r acc h' K ⟨l', rI, vals2, o', el2, er, rfl, hl2, hb2, rfl, F'⟩ hK
          obtain ⟨x, rI', rfl, rfl, rfl⟩ := map_cons_inv er
          have hx := mem_rgI (show x ∈ rgI S.cols by rw [el2]; simp)
          have hll2 : l'.length < 3 := by
            have z := congrArg List.length el2
            rw [rgI_len] at z
            simp at z
            omega
          refine ⟨_, rfl, ?_⟩
          walk_at "fd"
          refine k_lc (fun _ => ?_) (fun q => by cases q)
          walk_at "fd"
          refine w_drawD put_same F' hs (by omega) ⟨by decide, by decide⟩ fun b o3 b0 b1 F3 => ?_
          rw [put_put]
          have fin : ∀ y : Int, -999 ≤ y ∧ y ≤ 999 → K (vals2.map PyData.int ++ [.int y]) (mput H3 a o3) := fun y hy => hK _ _ ⟨l' ++ [x], rI', vals2 ++ [y], o3, by rw [el2]; simp, rfl, by simp, by simp [hl2], fun z hz => by
            rcases List.mem_append.mp hz with q | q
            · exact hb2 z q
            · rw [List.mem_singleton.mp q]; exact hy, rfl, F3.up (by simp; omega)⟩
          walk_at "fd"
          refine k_ifE (fun _ => ?_) fun _ => ?_
          · obtain ⟨y, y1, y2⟩ := at_map (fs := vv) (g := PyData.int) hx.1 (by omega)
            walk_at "fd"
            refine r_ixT y2 ?_
            exact k_lcE (fin y (hvb2 y (List.mem_of_getElem? y1)))
          · obtain ⟨y, y1, y2⟩ := at_map (fs := vals) (g := PyData.int) hx.1 (by omega)
            walk_at "fd"
            refine r_ixT y2 ?_
            exact k_lcE (fin y (hvb y (List.mem_of_getElem? y1)))
        · rintro acc h' ⟨l', rI, vals2, o3, el2, er, rfl, hl2, hb2, rfl, F3⟩
          have e0 : rI = [] := by
            cases rI with
            | nil => rfl
            | cons _ _ => cases er
          subst e0
          rw [List.append_nil] at el2
          have hll2 : l'.length = S.cols.toNat := by rw [← el2, rgI_len]
          walk_at "fd"
          refine w_drawD put_same F3 hs (by omega) ⟨by decide, by decide⟩ fun b o4 b0 b1 F4 => ?_
          rw [put_put]
          obtain ⟨d1, g1, g2⟩ := at_get (xs := [PyData.int S.vers.length, .int vt]) b0 (by simpa using b1)
          obtain ⟨root, rfl, hroot⟩ : ∃ y : Int, d1 = .int y ∧ (y = S.vers.length ∨ y = vt) := by
            simp only [List.mem_cons, List.not_mem_nil, or_false] at g2
            rcases g2 with g2 | g2
            · exact ⟨_, g2, .inl rfl⟩
            · exact ⟨_, g2, .inr rfl⟩
          refine r_ixL g1 ?_
          have gP4 : mput H3 a o4 ps = some (.lst ((S.vers.set i ⟨vp, vr, vv, vmk, some wr, vt⟩).map Ver.enc)) := (put_other n1).trans gP3
          walk_at "fd"
          refine m_append gP4 (by rw [List.length_map, List.length_set]; omega) ?_
          walk_at "fd"
          refine ends (S.vers.set i ⟨vp, vr, vv, vmk, some wr, vt⟩ ++ [⟨S.vers.length, vr, vals2, wr, none, root⟩]) o4 _ ((put_other (Ne.symm n1)).trans put_same) (by rw [put_same, List.map_append]; rfl) (fun b hb hb2 hs => (put_other hb2).trans ((put_other hb).trans (gO3 b hb hb2 hs)))
            (.turn i ⟨vp, vr, vv, vmk, ve, vt⟩ vals2 root e1 e2 e3 (by rw [hl2, hll2]) hb2 hroot) (F4.up (by omega))
      · walk_at "fd"
        exact ends (S.vers.set i ⟨vp, vr, vv, vmk, some wr, vt⟩) o2 H3 gA3 gP3 gO3 (.strike i ⟨vp, vr, vv, vmk, ve, vt⟩ e1 e2 e3) (F2.up (by omega))
end

/-! ### stands that deeds reach -/
inductive Step (S : Stand) : Stand → Prop where
  | begin (h : S.fates.length < 20) : Step S ⟨S.cols, S.vers, S.fates ++ [.live], S.views ++ [((nums S.fates).length : Int)]⟩
  | gone (who : Nat) (h : S.fates[who]? = some .live) : Step S ⟨S.cols, S.vers, S.fates.set who .gone, S.views⟩
  | done (who : Nat) (h : S.fates[who]? = some .live) : Step S ⟨S.cols, S.vers, S.fates.set who (.done ((nums S.fates).length + 1)), S.views⟩
  | wrote (who : Nat) (h : S.fates[who]? = some .live) (hz : S.vers.length < 40) {vs : List Ver} (w : Wrote S who vs) : Step S ⟨S.cols, vs, S.fates, S.views⟩
inductive Reach (w : Int) : Stand → Prop where
  | nil : Reach w ⟨w, [], [], []⟩
  | step {S S' : Stand} (r : Reach w S) (s : Step S S') : Reach w S'
theorem numsA (a b : List Fate) : nums (a ++ b) = nums a ++ nums b := List.filterMap_append
theorem nums_set_gone : ∀ {fs : List Fate} {who : Nat}, fs[who]? = some .live → nums (fs.set who .gone) = nums fs
  | [], _, h => by cases h
  | f :: fs, 0, h => by
    simp at h
    subst h
    rfl
  | f :: fs, n + 1, h => by
    have ih := nums_set_gone (fs := fs) (who := n) (by simpa using h)
    unfold nums at ih ⊢
    rw [List.set_cons_succ, List.filterMap_cons, List.filterMap_cons, ih]
theorem nums_set_done {n : Int} : ∀ {fs : List Fate} {who : Nat}, fs[who]? = some .live → (nums (fs.set who (.done n))).Perm (n :: nums fs)
  | [], _, h => by cases h
  | f :: fs, 0, h => by
    simp at h
    subst h
    exact List.Perm.refl _
  | f :: fs, k + 1, h => by
    have ih := nums_set_done (n := n) (fs := fs) (who := k) (by simpa using h)
    unfold nums at ih ⊢
    rw [List.set_cons_succ, List.filterMap_cons, List.filterMap_cons]
    cases f.num with
    | none => exact ih
    | some i => exact (ih.cons i).trans (List.Perm.swap _ _ _)
theorem upI_succ (n : Nat) : upI (n + 1) = upI n ++ [(n : Int) + 1] := by
  unfold upI
  rw [List.range_succ, List.map_append]
  rfl
theorem wrote_len {S : Stand} {wr : Int} {vs : List Ver} (w : Wrote S wr vs) : S.vers.length ≤ vs.length ∧ vs.length ≤ S.vers.length + 1 := by
  cases w with
  | put row vals hr h0 hl hb => simp
  | strike i v hi hs he => simp
  | turn i v vals root hi hs he hl hb hr => simp
/-- what stands at a place of what a deed wrote -/
theorem wrote_at {S : Stand} {wr : Int} {vs : List Ver} (w : Wrote S wr vs) {i : Nat} {u : Ver} (e : vs[i]? = some u) :
    S.vers[i]? = some u ∨ (∃ v, S.vers[i]? = some v ∧ u = { v with ender := some wr }) ∨ (i = S.vers.length ∧ u.place = S.vers.length ∧ u.maker = wr ∧ u.ender = none ∧ u.vals.length = S.cols.toNat ∧ (∀ x ∈ u.vals, -999 ≤ x ∧ x ≤ 999) ∧
      ((0 ≤ u.row ∧ u.row ≤ S.vers.length ∧ u.root = S.vers.length) ∨ ∃ v ∈ S.vers, u.row = v.row ∧ (u.root = S.vers.length ∨ u.root = v.root))) := by
  have setA : ∀ (j : Nat) (v : Ver), S.vers[j]? = some v → (S.vers.set j { v with ender := some wr })[i]? = some u → S.vers[i]? = some u ∨ ∃ v, S.vers[i]? = some v ∧ u = { v with ender := some wr } := fun j v hj e => by
    by_cases q : j = i
    · subst q
      rw [List.getElem?_set_self (List.getElem?_eq_some_iff.mp hj).1] at e
      exact .inr ⟨v, hj, (Option.some.inj e).symm⟩
    · rw [List.getElem?_set_ne q] at e
      exact .inl e
  cases w with
  | put row vals hr h0 hl hb =>
    by_cases q : i < S.vers.length
    · rw [List.getElem?_append_left q] at e; exact .inl e
    · have hi := (List.getElem?_eq_some_iff.mp e).1
      simp at hi
      have hi2 : i = S.vers.length := by omega
      subst hi2
      rw [List.getElem?_append_right (Nat.le_refl _), Nat.sub_self] at e
      cases e
      exact .inr (.inr ⟨rfl, rfl, rfl, rfl, hl, hb, .inl ⟨h0.1, h0.2, rfl⟩⟩)
  | strike j v hj hs he =>
    rcases setA j v hj e with z | z
    · exact .inl z
    · exact .inr (.inl z)
  | turn j v vals root hj hs he hl hb hr =>
    by_cases q : i < S.vers.length
    · rw [List.getElem?_append_left (by rw [List.length_set]; exact q)] at e
      rcases setA j v hj e with z | z
      · exact .inl z
      · exact .inr (.inl z)
    · have hi := (List.getElem?_eq_some_iff.mp e).1
      simp at hi
      have hi2 : i = S.vers.length := by omega
      subst hi2
      rw [List.getElem?_append_right (by rw [List.length_set]; exact Nat.le_refl _), List.length_set, Nat.sub_self] at e
      cases e
      exact .inr (.inr ⟨rfl, rfl, rfl, rfl, hl, hb, .inr ⟨v, List.mem_of_getElem? hj, rfl, hr⟩⟩)
theorem rise_of {vs : List Ver} (h : ∀ i v, vs[i]? = some v → v.place = ((i : Nat) : Int)) : vs.Pairwise fun v u => v.place < u.place := by
  refine List.pairwise_iff_getElem.mpr fun i j hi hj hij => ?_
  rw [h i _ (List.getElem?_eq_getElem hi), h j _ (List.getElem?_eq_getElem hj)]
  omega
theorem DeedOk.step {S S' : Stand} (d : DeedOk S) (s : Step S S') : DeedOk S' := by
  have ok := d.ok
  cases s with
  | begin h =>
    have hn : nums (S.fates ++ [Fate.live]) = nums S.fates := by rw [numsA]; exact List.append_nil _
    have hl : ((S.fates ++ [Fate.live]).length : Int) = (S.fates.length : Int) + 1 := by simp
    refine ⟨⟨ok.cols, by show (S.fates ++ [Fate.live]).length ≤ 20; simp; omega, ok.size, fun v hv => ?_, ok.rise, ok.far, by show (nums (S.fates ++ [Fate.live])).Perm _; rw [hn]; exact ok.nums, by show (S.views ++ [_]).length = (S.fates ++ [_]).length; simp [ok.views], fun x hx => ?_⟩, d.at_, d.row⟩
    · have y := ok.vers v hv
      show VerOk S.cols ((S.fates ++ [Fate.live]).length : Int) 99 v
      rw [hl]
      exact ⟨y.place, y.row, y.cols, y.vals, ⟨y.maker.1, by have := y.maker.2; omega⟩, fun i q => ⟨(y.ender i q).1, by have := (y.ender i q).2; omega⟩, y.root⟩
    · show 0 ≤ x ∧ x ≤ ((nums (S.fates ++ [Fate.live])).length : Int)
      rw [hn]
      rcases List.mem_append.mp hx with z | z
      · exact ok.view x z
      · rw [List.mem_singleton.mp z]; omega
  | gone who h =>
    have hn := nums_set_gone h
    have hl : (S.fates.set who .gone).length = S.fates.length := List.length_set
    exact ⟨⟨ok.cols, by show (S.fates.set who .gone).length ≤ 20; rw [hl]; exact ok.many, ok.size, fun v hv => by show VerOk S.cols ((S.fates.set who .gone).length : Int) 99 v; rw [hl]; exact ok.vers v hv, ok.rise, ok.far, by show (nums (S.fates.set who .gone)).Perm _; rw [hn]; exact ok.nums, by show S.views.length = (S.fates.set who .gone).length; rw [hl]; exact ok.views, fun x hx => by show 0 ≤ x ∧ x ≤ ((nums (S.fates.set who .gone)).length : Int); rw [hn]; exact ok.view x hx⟩, d.at_, d.row⟩
  | done who h =>
    have hn := nums_set_done (n := (nums S.fates).length + 1) h
    have hln : (nums (S.fates.set who (.done ((nums S.fates).length + 1)))).length = (nums S.fates).length + 1 := by rw [hn.length_eq]; simp
    have hl : (S.fates.set who (.done ((nums S.fates).length + 1))).length = S.fates.length := List.length_set
    refine ⟨⟨ok.cols, by show (S.fates.set who _).length ≤ 20; rw [hl]; exact ok.many, ok.size, fun v hv => by show VerOk S.cols ((S.fates.set who _).length : Int) 99 v; rw [hl]; exact ok.vers v hv, ok.rise, ok.far, ?_, by show S.views.length = (S.fates.set who _).length; rw [hl]; exact ok.views, fun x hx => ?_⟩, d.at_, d.row⟩
    · show (nums (S.fates.set who (.done ((nums S.fates).length + 1)))).Perm (upI (nums (S.fates.set who (.done ((nums S.fates).length + 1)))).length)
      rw [hln, upI_succ]
      exact hn.trans ((List.Perm.cons _ ok.nums).trans (List.perm_append_comm (l₁ := [_])))
    · have := ok.view x hx
      show 0 ≤ x ∧ x ≤ ((nums (S.fates.set who (.done ((nums S.fates).length + 1)))).length : Int)
      rw [hln]
      exact ⟨this.1, by push_cast; omega⟩
  | @wrote who h hz vs w =>
    have hlen := wrote_len w
    have hwho : who < S.fates.length := (List.getElem?_eq_some_iff.mp h).1
    have key : ∀ i u, vs[i]? = some u → VerOk S.cols S.fates.length 99 u ∧ u.place = ((i : Nat) : Int) ∧ u.row < vs.length := fun i u e => by
      have hi := (List.getElem?_eq_some_iff.mp e).1
      have hsz := ok.size
      rcases wrote_at w e with z | ⟨v, z, rfl⟩ | ⟨rfl, z1, z2, z3, z4, z5, z6⟩
      · exact ⟨ok.vers u (List.mem_of_getElem? z), d.at_ i u z, by have := d.row u (List.mem_of_getElem? z); omega⟩
      · have y := ok.vers v (List.mem_of_getElem? z)
        refine ⟨⟨y.place, y.row, y.cols, y.vals, y.maker, fun j q => ?_, y.root⟩, d.at_ i v z, by have := d.row v (List.mem_of_getElem? z); show v.row < _; omega⟩
        cases q
        exact ⟨by omega, by omega⟩
      · rcases z6 with ⟨r1, r2, r3⟩ | ⟨v, hv, r1, r2⟩
        · exact ⟨⟨by omega, ⟨r1, by omega⟩, z4, z5, ⟨by omega, by omega⟩, fun j q => by (rw [z3] at q; cases q), ⟨by omega, by omega⟩⟩, z1, by omega⟩
        · have y := ok.vers v hv
          have hp : v.place < S.vers.length := by
            obtain ⟨j, hj, ej⟩ := List.mem_iff_getElem.mp hv
            have := d.at_ j v (by rw [List.getElem?_eq_getElem hj, ej])
            omega
          have hrow := d.row v hv
          have hrt := y.root
          have hry := y.row
          refine ⟨⟨by omega, ⟨by omega, by omega⟩, z4, z5, ⟨by omega, by omega⟩, fun j q => by (rw [z3] at q; cases q), ?_⟩, z1, by omega⟩
          rcases r2 with r2 | r2 <;> exact ⟨by omega, by omega⟩
    have mem : ∀ u ∈ vs, ∃ i, vs[i]? = some u := fun u hu => by
      obtain ⟨i, hi, e⟩ := List.mem_iff_getElem.mp hu
      exact ⟨i, by rw [List.getElem?_eq_getElem hi, e]⟩
    refine ⟨⟨ok.cols, ok.many, by show vs.length ≤ 40; omega, fun u hu => ?_, rise_of fun i u e => (key i u e).2.1, fun u hu => ?_, ok.nums, ok.views, ok.view⟩, fun i u e => (key i u e).2.1, fun u hu => ?_⟩
    · obtain ⟨i, e⟩ := mem u hu
      exact (key i u e).1
    · obtain ⟨i, e⟩ := mem u hu
      have := (key i u e).2.1
      have hi := (List.getElem?_eq_some_iff.mp e).1
      have hsz := ok.size
      omega
    · obtain ⟨i, e⟩ := mem u hu
      exact (key i u e).2.2
theorem Reach.ok {w : Int} {S : Stand} (hw : 1 ≤ w ∧ w ≤ 3) (r : Reach w S) : DeedOk S := by
  induction r with
  | nil => exact ⟨⟨hw, Nat.zero_le _, Nat.zero_le _, fun v hv => (by cases hv), List.Pairwise.nil, fun v hv => (by cases hv), List.Perm.refl _, rfl, fun x hx => (by cases hx)⟩, fun i v e => (by simp at e), fun v hv => (by cases hv)⟩
  | step r s ih => exact ih.step s
theorem Reach.cols {w : Int} {S : Stand} (r : Reach w S) : S.cols = w := by
  induction r with
  | nil => rfl
  | step r s ih => cases s <;> exact ih

/-! ### a stand drawn by deeds -/
local macro_rules | `(tactic| walk_at "fd1") => `(tactic| first
  | walk_at "dl1"
  | ((with_reducible apply r_ixD); walk_at "hp"; exact rfl; (first | exact fv_cells | exact fv_at | exact fv_left | exact fv_turn))
  | ((with_reducible apply k_setD); walk_at "hp"; exact rfl; (show (4 : Nat) < 16777216; decide); (first | rw [fp_at] | rw [fp_left] | rw [fp_turn])))
local macro_rules | `(tactic| walk_at "fd") => `(tactic| repeat walk_at "fd1")
def liveB (fs : List Fate) (i : Int) : Bool := match fs[i.toNat]? with
  | some f => PyData.eqv f.enc (.tuple [.str "live"])
  | none => false
theorem eqv_liveD {f : Fate} : PyData.eqv f.enc (.tuple [.str "live"]) = true → f = .live := by
  cases f with
  | live => exact fun _ => rfl
  | gone => exact fun z => absurd z (by decide +kernel)
  | done i => exact fun z => absurd z (by simp [Fate.enc, PyData.eqv, PyData.eqvAll])
/-- the heap of a stand in the making -/
structure Made (h : MH) (a p4 p5 p6 : Addr) (S : Stand) (o : MO) (H : MH) : Prop where
  a_ : H a = some o
  v : H p4 = some (.lst (S.vers.map Ver.enc))
  f : H p5 = some (.lst (S.fates.map Fate.enc))
  w : H p6 = some (.lst (S.views.map PyData.int))
  o_ : ∀ b, b ≠ a → (h b).isSome = true → H b = h b
section
variable {h : MH} {Q : DK} {E : DXK}
theorem none_put {h : MH} {p a : Addr} {o : MO} (e : mput h a o p = none) : p ≠ a ∧ h p = none := by
  by_cases q : p = a
  · subst q; rw [put_same] at e; cases e
  · exact ⟨q, (put_other q).symm.trans e⟩
theorem w_standD {a : Addr} {o : MO} {sc : List Int} {C size : Int} (ha : h a = some o) (F : FdD sc C o) (hs : sc.length ≤ 63) (hC : C ≤ 10 ^ 10) (hz : 0 ≤ size ∧ size ≤ 60)
    (k : ∀ S o', Reach S.cols S → 1 ≤ S.cols ∧ S.cols ≤ 3 → FdD sc (C + 2000) o' → Q (.d S.enc) (mput h a o')) : W__law_stand [.own a, .d (.int size)] h Q E := by
  have hsome : (h a).isSome = true := by rw [ha]; rfl
  refine fnW_mk rfl ?_
  unfold t__law_stand
  show dSeq _ _ _ [some (.own a), some (.d (.int size)), none, none, none, none, none, none, none, none, none] h
  walk_at "fd"
  refine w_drawD ha F hs (by omega) ⟨by decide, by decide⟩ fun c1 o1 c10 c11 F1 => ?_
  walk_at "fd"
  intro p4 hp4
  walk_at "fd"
  intro p5 hp5
  walk_at "fd"
  intro p6 hp6
  walk_at "fd"
  intro p0 hp0
  obtain ⟨m04, hp4'⟩ := none_put hp4
  obtain ⟨m45, hp5'⟩ := none_put hp5
  obtain ⟨m05, hp5''⟩ := none_put hp5'
  obtain ⟨m56, hp6'⟩ := none_put hp6
  obtain ⟨m46, hp6''⟩ := none_put hp6'
  obtain ⟨m06, hp6'''⟩ := none_put hp6''
  obtain ⟨n6, hp0'⟩ := none_put hp0
  obtain ⟨n5, hp0''⟩ := none_put hp0'
  obtain ⟨n4, hp03⟩ := none_put hp0''
  obtain ⟨n0, hp04⟩ := none_put hp03
  refine k_unp put_same rfl rfl ?_
  have M : Made h a p4 p5 p6 ⟨1 + c1, [], [], []⟩ o1 (mput (mput (mput (mput (mput h a o1) p4 (.lst [])) p5 (.lst [])) p6 (.lst [])) p0 (.tpl [.d (.int (1 + c1)), .own p4, .own p5, .own p6])) := ⟨by
    rw [put_other (Ne.symm n0), put_other (Ne.symm m06), put_other (Ne.symm m05), put_other (Ne.symm m04), put_same], by
    rw [put_other (Ne.symm n4), put_other (Ne.symm m46), put_other (Ne.symm m45), put_same]; rfl, by
    rw [put_other (Ne.symm n5), put_other (Ne.symm m56), put_same]; rfl, by
    rw [put_other (Ne.symm n6), put_same]; rfl, fun b hb hs => by
    have e : ∀ p, h p = none → b ≠ p := fun p hp z => by rw [z, hp] at hs; cases hs
    rw [put_other (e _ hp04), put_other (e _ hp6'''), put_other (e _ hp5''), put_other (e _ hp4'), put_other hb]⟩
  generalize mput (mput (mput (mput (mput h a o1) p4 (.lst [])) p5 (.lst [])) p6 (.lst [])) p0 (.tpl [.d (.int (1 + c1)), .own p4, .own p5, .own p6]) = H0 at M
  clear hp4 hp5 hp6 hp0 hp5' hp6' hp6'' hp0' hp0'' hp03
  dsimp only
  walk_at "fd"
  refine k_wRg1 ⟨by omega, by omega⟩ ?_
  rw [rg0]
  refine for_inv (fun r σ h' => ∃ (l rI : List Int) (S : Stand) (o' : MO) (x2 x7 x8 x9 x10 : Option SV), rgI size = l ++ rI ∧ r = rI.map PyData.int ∧ Reach (1 + c1) S ∧ Made h a p4 p5 p6 S o' h' ∧ FdD sc (C + 1 + 30 * l.length) o' ∧
      σ = [some (.own a), some (.d (.int size)), x2, some (.d (.int (1 + c1))), some (.own p4), some (.own p5), some (.own p6), x7, x8, x9, x10]) ?_ ?_ _ _ _
    ⟨[], rgI size, ⟨1 + c1, [], [], []⟩, o1, _, _, _, _, _, rfl, rfl, .nil, M, F1.up (by simp), rfl⟩
  · rintro dd r σ H K ⟨l, rI, S, o', x2, x7, x8, x9, x10, el, er, R, M, F', rfl⟩ hK
    obtain ⟨x, rI', rfl, rfl, rfl⟩ := map_cons_inv er
    have hll : l.length < 60 := by
      have z := congrArg List.length el
      rw [rgI_len] at z
      simp at z
      omega
    have hcol := R.cols
    have dok := R.ok ⟨by omega, by omega⟩
    have ok := dok.ok
    have hm := ok.many
    have hsz := ok.size
    have hvl := ok.views
    have fin : ∀ (S' : Stand) (o2 : MO) (H2 : MH) (z7 z8 z9 z10 : Option SV), Reach (1 + c1) S' → Made h a p4 p5 p6 S' o2 H2 → FdD sc (C + 1 + 30 * l.length + 30) o2 → K [some (.own a), some (.d (.int size)), some (.d (.int x)), some (.d (.int (1 + c1))), some (.own p4), some (.own p5), some (.own p6), z7, z8, z9, z10] H2 := fun S' o2 H2 z7 z8 z9 z10 R' M' F2 =>
      hK _ _ ⟨l ++ [x], rI', S', o2, _, _, _, _, _, by rw [el]; simp, rfl, R', M', F2.up (by simp; omega), rfl⟩
    have gA := M.a_
    have gV := M.v
    have gF := M.f
    have gW := M.w
    refine ⟨_, rfl, ?_⟩
    walk_at "fd"
    rw [List.length_map]
    refine k_wRg1 ⟨by omega, by omega⟩ ?_
    rw [rg0]
    refine ⟨by rw [sizeLine_eq, List.length_map, rgI_len]; omega, ?_⟩
    refine lc_enc (enc := PyData.int) (out := PyData.int) (liveB S.fates) (fun i hi => ⟨_, rfl, fun K hK => ?_, fun _ K hK => ?_⟩) ?_
    · obtain ⟨f, f1, f2⟩ := at_map (g := Fate.enc) (mem_rgI hi).1 (mem_rgI hi).2
      unfold liveB at hK
      simp only [f1] at hK
      walk_at "fd"
      refine r_ixO gF f2 ?_
      walk_at "fd"
      refine r_eq rfl rfl fate_shapedD (shaped_ok (n := 1) (by decide) (by decide +kernel)) ?_
      walk_at "fd"
      exact hK
    · walk_at "fd"
      exact hK
    have hlive : ∀ x ∈ (rgI (S.fates.length : Nat)).filter (liveB S.fates), ∃ who : Nat, x = (who : Int) ∧ S.fates[who]? = some .live := fun x hx => by
      obtain ⟨h1, h2⟩ := List.mem_filter.mp hx
      have h3 := mem_rgI h1
      refine ⟨x.toNat, by omega, ?_⟩
      unfold liveB at h2
      split at h2
      · rename_i f ef
        rw [ef, eqv_liveD h2]
      · cases h2
    have hll2 : ((rgI (S.fates.length : Nat)).filter (liveB S.fates)).length ≤ 20 := Nat.le_trans (List.length_filter_le _ _) (by rw [rgI_len]; omega)
    generalize (rgI (S.fates.length : Nat)).filter (liveB S.fates) = lv at hlive hll2
    walk_at "fd"
    rw [List.length_map]
    have hnl : (nums S.fates).length ≤ 20 := Nat.le_trans (List.length_filterMap_le _ _) hm
    -- a writer more
    have begin_ : ∀ o2 H2, Made h a p4 p5 p6 S o2 H2 → FdD sc (C + 1 + 30 * l.length + 30) o2 → S.fates.length < 20 → (dSeq (dDrop (dML rdAppend (dVar 6) (dCons (dCall noX W__law_many_done (dCons (dVar 5) dNil)) dNil)))
        (dDrop (dML rdAppend (dVar 5) (dCons (dTup (dCons (dC (.str "live")) dNil)) dNil)))) { nx := K, ct := K, bk := (dEnd h Q).bk, rt := (dEnd h Q).rt } [some (.own a), some (.d (.int size)), some (.d (.int x)), some (.d (.int (1 + c1))), some (.own p4), some (.own p5), some (.own p6), some (.d (.list (lv.map PyData.int))), x8, x9, x10] H2 := fun o2 H2 M2 F2 hlt => by
      have gA := M2.a_
      have gV := M2.v
      have gF := M2.f
      have gW := M2.w
      walk_at "fd"
      refine w_many_doneO gF (by omega) ?_
      walk_at "fd"
      refine m_append gW (by rw [List.length_map, hvl]; omega) ?_
      have gF2 : mput H2 p6 (.lst (S.views.map PyData.int ++ [.int (nums S.fates).length])) p5 = some (.lst (S.fates.map Fate.enc)) := (put_other (Ne.symm m56)).trans gF
      walk_at "fd"
      refine m_append gF2 (by rw [List.length_map]; omega) ?_
      refine fin ⟨S.cols, S.vers, S.fates ++ [.live], S.views ++ [((nums S.fates).length : Int)]⟩ o2 _ _ _ _ _ (R.step (.begin hlt)) ⟨?_, ?_, ?_, ?_, fun b hb hbs => ?_⟩ F2
      · rw [put_other (Ne.symm m05), put_other (Ne.symm m06)]; exact gA
      · rw [put_other (Ne.symm m45), put_other (Ne.symm m46)]; exact gV
      · rw [put_same, List.map_append]; rfl
      · rw [put_other m56, put_same, List.map_append]; rfl
      · have e : ∀ p, h p = none → b ≠ p := fun p hp z => by rw [z, hp] at hbs; cases hbs
        rw [put_other (e _ hp5''), put_other (e _ hp6''')]
        exact M2.o_ b hb hbs
    -- a deed of a live one
    have deed_ : ∀ o2 H2, Made h a p4 p5 p6 S o2 H2 → FdD sc (C + 1 + 30 * l.length + 1) o2 → (dIfS (dTest (dOp rdNe (dVar 7) (dL (fLst dNil)))) (dSeq (dPar 9 10 (dCons (dOp rdIx (dVar 7) (dCall noX W__law_draw (dCons (dVar 0) (dCons (dB rdLen (dCons (dVar 7) dNil)) dNil)))) (dCons (dCall noX W__law_draw (dCons (dVar 0) (dCons (dC (.int 12)) dNil))) dNil)))
        (dIfS (dTest (dOp rdEq (dVar 10) (dC (.int 0)))) (dSetIx (dTup (dCons (dC (.str "gone")) dNil)) (dVar 5) (dVar 9)) (dIfS (dTest (dOp rdLt (dVar 10) (dC (.int 4)))) (dSetIx (dTup (dCons (dC (.str "done")) (dCons (dOp rdAdd (dCall noX W__law_many_done (dCons (dVar 5) dNil)) (dC (.int 1))) dNil))) (dVar 5) (dVar 9)) (dIfS (dTest (dOp rdLt (dB rdLen (dCons (dVar 4) dNil)) (dC (.int 40)))) (dDrop (dCall noX W__law_written (dCons (dVar 0) (dCons (dVar 3) (dCons (dVar 4) (dCons (dVar 5) (dCons (dVar 6) (dCons (dVar 9) (dCons (dOp rdSub (dVar 10) (dC (.int 2))) dNil))))))))) dNext)))) dNext) { nx := K, ct := K, bk := (dEnd h Q).bk, rt := (dEnd h Q).rt } [some (.own a), some (.d (.int size)), some (.d (.int x)), some (.d (.int (1 + c1))), some (.own p4), some (.own p5), some (.own p6), some (.d (.list (lv.map PyData.int))), x8, x9, x10] H2 := fun o2 H2 M2 F2 => by
      have gA := M2.a_
      walk_at "fd"
      refine r_ne rfl rfl (shaped_ints _) rfl ?_
      walk_at "fd"
      refine k_if (fun q => ?_) fun _ => ?_
      · have hl1 : 1 ≤ lv.length := by
          cases lv with
          | nil => simp [PyData.eqv, PyData.eqvAll] at q
          | cons _ _ => simp
        walk_at "fd"
        rw [List.length_map]
        refine w_drawD gA F2 hs (by omega) ⟨by omega, by omega⟩ fun u o3 u0 u1 F3 => ?_
        obtain ⟨y, y1, y2⟩ := at_map (fs := lv) (g := PyData.int) u0 u1
        obtain ⟨who, rfl, hwho⟩ := hlive y (List.mem_of_getElem? y1)
        have hwl : who < S.fates.length := (List.getElem?_eq_some_iff.mp hwho).1
        refine r_ixL y2 ?_
        walk_at "fd"
        refine w_drawD put_same F3 hs (by omega) ⟨by decide, by decide⟩ fun way o4 w0 w1 F4 => ?_
        rw [put_put]
        have M4 : Made h a p4 p5 p6 S o4 (mput H2 a o4) := ⟨put_same, (put_other m04).trans M2.v, (put_other m05).trans M2.f, (put_other m06).trans M2.w, fun b hb hbs => (put_other hb).trans (M2.o_ b hb hbs)⟩
        generalize mput H2 a o4 = H4 at M4
        have gA4 := M4.a_
        have gV4 := M4.v
        have gF4 := M4.f
        have gW4 := M4.w
        have setF : ∀ f : Fate, Reach (1 + c1) ⟨S.cols, S.vers, S.fates.set who f, S.views⟩ → K [some (.own a), some (.d (.int size)), some (.d (.int x)), some (.d (.int (1 + c1))), some (.own p4), some (.own p5), some (.own p6), some (.d (.list (lv.map PyData.int))), x8, some (.d (.int who)), some (.d (.int way))] (mput H4 p5 (.lst ((S.fates.map Fate.enc).set who f.enc))) := fun f R' => by
          refine fin _ o4 _ _ _ _ _ R' ⟨?_, ?_, ?_, ?_, fun b hb hbs => ?_⟩ (F4.up (by omega))
          · rw [put_other (Ne.symm m05)]; exact gA4
          · rw [put_other (Ne.symm m45)]; exact gV4
          · rw [put_same, List.map_set]
          · rw [put_other m56]; exact gW4
          · rw [put_other (fun z => by rw [z, hp5''] at hbs; cases hbs)]
            exact M4.o_ b hb hbs
        walk_at "fd"
        refine k_if (fun _ => ?_) fun _ => ?_
        · walk_at "fd"
          refine k_set gF4 (ix_at (by rw [List.length_map]; exact hwl)) ?_
          exact setF .gone (R.step (.gone who hwho))
        · walk_at "fd"
          refine k_if (fun _ => ?_) fun _ => ?_
          · walk_at "fd"
            refine w_many_doneO gF4 (by omega) ?_
            walk_at "fd"
            refine k_set gF4 (ix_at (by rw [List.length_map]; exact hwl)) ?_
            exact setF (.done ((nums S.fates).length + 1)) (R.step (.done who hwho))
          · walk_at "fd"
            rw [List.length_map]
            refine k_if (fun q40 => ?_) fun _ => ?_
            · have hz40 : S.vers.length < 40 := by
                have := of_decide_eq_true q40
                omega
              walk_at "fd"
              rw [← hcol]
              refine w_written gA4 F4 hs (by omega) dok gV4 gF4 gW4 m04 (Ne.symm m45) (Ne.symm m46) (Ne.symm m05) (Ne.symm m06) (by unfold inR; simp; omega) fun vs o5 w F5 => ?_
              rw [hcol]
              refine fin ⟨S.cols, vs, S.fates, S.views⟩ o5 _ _ _ _ _ (R.step (.wrote who hwho hz40 w)) ⟨put_same, ?_, ?_, ?_, fun b hb hbs => ?_⟩ (F5.up (by omega))
              · rw [put_other m04, put_same]
              · rw [put_other m05, put_other m45]; exact gF4
              · rw [put_other m06, put_other m46]; exact gW4
              · rw [put_other hb, put_other (fun z => by rw [z, hp4'] at hbs; cases hbs)]
                exact M4.o_ b hb hbs
            · walk_at "fd"
              exact fin S o4 H4 _ _ _ _ R M4 (F4.up (by omega))
      · walk_at "fd"
        exact fin S o2 H2 _ _ _ _ R M2 (F2.up (by omega))
    refine k_and (fun q20 => ?_) fun _ => ?_
    · have hlt : S.fates.length < 20 := by
        have := of_decide_eq_true q20
        omega
      walk_at "fd"
      refine r_eq rfl rfl (shaped_ints _) rfl ?_
      walk_at "fd"
      refine k_or (fun _ => ?_) fun _ => ?_
      · refine k_if (fun _ => ?_) fun z => by cases z
        exact begin_ _ _ M (F'.up (by omega)) hlt
      · walk_at "fd"
        refine w_drawD gA F' hs (by omega) ⟨by decide, by decide⟩ fun u o3 u0 u1 F3 => ?_
        have M3 : Made h a p4 p5 p6 S o3 (mput H a o3) := ⟨put_same, (put_other m04).trans M.v, (put_other m05).trans M.f, (put_other m06).trans M.w, fun b hb hbs => (put_other hb).trans (M.o_ b hb hbs)⟩
        walk_at "fd"
        refine k_if (fun _ => ?_) fun _ => ?_
        · exact begin_ _ _ M3 (F3.up (by omega)) hlt
        · exact deed_ _ _ M3 (F3.up (by omega))
    · refine k_if (fun z => by cases z) fun _ => ?_
      exact deed_ _ _ M (F'.up (by omega))
  · rintro σ H ⟨l, rI, S, o', x2, x7, x8, x9, x10, el, er, R, M, F', rfl⟩
    have e0 : rI = [] := by
      cases rI with
      | nil => rfl
      | cons _ _ => cases er
    subst e0
    rw [List.append_nil] at el
    have hll : l.length = size.toNat := by rw [← el, rgI_len]
    have hcol := R.cols
    have gV := M.v
    have gF := M.f
    have gW := M.w
    dsimp only
    walk_at "fd"
    refine b_tuple (asQ_own gV) ?_
    walk_at "fd"
    refine b_tuple (asQ_own gF) ?_
    walk_at "fd"
    refine b_tuple (asQ_own gW) ?_
    walk_at "fd"
    have e : ∀ d : PyData, restr h H (.d d) = mput h a o' := fun d => restr_is (fun b hb => by
      by_cases z : b = a
      · subst z; rw [put_same, M.a_]
      · rw [put_other z, M.o_ b z hb]) fun b hb => by
      rw [put_other (fun z => by rw [z, ha] at hb; cases hb), hb]
    rw [e, ← hcol]
    exact k S o' (by rw [hcol]; exact R) ⟨by omega, by omega⟩ (F'.up (by omega))
theorem w_some_standD {a : Addr} {o : MO} {sc : List Int} {C : Int} (ha : h a = some o) (F : FdD sc C o) (hs : sc.length ≤ 63) (hC : C ≤ 10 ^ 9)
    (k : ∀ S o', Reach S.cols S → 1 ≤ S.cols ∧ S.cols ≤ 3 → FdD sc (C + 2010) o' → Q (.d S.enc) (mput h a o')) : W__law_some_stand [.own a] h Q E := by
  have hsome : (h a).isSome = true := by rw [ha]; rfl
  refine fnW_mk rfl ?_
  unfold t__law_some_stand
  show dRet _ _ [some (.own a)] h
  walk_at "fd"
  refine w_drawD ha F hs (by omega) ⟨by decide, by decide⟩ fun u o1 u0 u1 F1 => ?_
  obtain ⟨d1, e1, e2⟩ := at_get (xs := [PyData.int 0, .int 6, .int 20, .int 40]) u0 (by simpa using u1)
  obtain ⟨y, rfl, hy⟩ : ∃ y : Int, d1 = .int y ∧ 0 ≤ y ∧ y ≤ 40 := by
    simp only [List.mem_cons, List.not_mem_nil, or_false] at e2
    rcases e2 with e2 | e2 | e2 | e2 <;> exact ⟨_, e2, by omega, by omega⟩
  refine r_ixL e1 ?_
  walk_at "fd"
  refine w_drawD put_same F1 hs (by omega) ⟨by decide, by decide⟩ fun u2 o2 u20 u21 F2 => ?_
  rw [put_put]
  walk_at "fd"
  refine w_standD put_same F2 hs (by omega) ⟨by omega, by omega⟩ fun S o3 R hc F3 => ?_
  rw [put_put]
  walk_at "fd"
  rw [restr_putd hsome, restr_self]
  exact k S o3 R hc (F3.up (by omega))
end

/-! ### a writer that isn't gone sees at most one version of a row -/
def Gn (fs : List Fate) (m : Int) : Prop := fs[m.toNat]? = some .gone
def LeW (fs : List Fate) (vw : List Int) (a b : Int) : Prop := a = b ∨ ∃ n, fs[a.toNat]? = some (.done n) ∧ n ≤ viewAt vw b
structure Uq (S : Stand) : Prop where
  vd : ∀ (b : Nat) (n : Int), S.fates[b]? = some (.done n) → (S.views[b]?).getD 0 < n
  ch : ∀ (i j : Nat) (v u : Ver), i < j → S.vers[i]? = some v → S.vers[j]? = some u → v.row = u.row → Gn S.fates v.maker ∨ Gn S.fates u.maker ∨ ∃ e, v.ender = some e ∧ LeW S.fates S.views e u.maker
theorem on_iffU {fs : List Fate} {i w view : Int} : isOn fs (some i) (some w) view = true ↔ w = i ∨ ∃ n, fs[i.toNat]? = some (.done n) ∧ n ≤ view := by
  show (decide ((some w : Option Int) = some i) || doneBy fs (some i) view) = true ↔ _
  rw [Bool.or_eq_true, decide_eq_true_eq, Option.some.injEq]
  refine or_congr Iff.rfl ?_
  unfold doneBy
  dsimp only
  cases q : fs[i.toNat]? with
  | none => simp
  | some f =>
    cases f with
    | live => simp
    | gone => simp
    | done n => simp
theorem onV_iffU {fs : List Fate} {w view : Int} {v : Ver} (h : onV fs (some w) view v = true) : isOn fs (some v.maker) (some w) view = true ∧ ∀ e, v.ender = some e → ¬ isOn fs (some e) (some w) view = true := by
  unfold onV at h
  rw [Bool.and_eq_true] at h
  refine ⟨h.1, fun e he z => ?_⟩
  rw [he, z] at h
  exact absurd h.2 (by decide)
theorem on_notGn {fs : List Fate} {i w view : Int} (hw : ¬ Gn fs w) (h : isOn fs (some i) (some w) view = true) : ¬ Gn fs i := fun g => by
  rcases on_iffU.mp h with e | ⟨n, e, _⟩
  · exact hw (e ▸ g)
  · unfold Gn at g
    rw [g] at e
    cases e
theorem le_on {S : Stand} (u : Uq S) {a b w : Int} (l : LeW S.fates S.views a b) (h : isOn S.fates (some b) (some w) (viewAt S.views w) = true) : isOn S.fates (some a) (some w) (viewAt S.views w) = true := by
  refine on_iffU.mpr ?_
  rcases l with e | ⟨n, e, hn⟩
  · subst e; exact on_iffU.mp h
  · refine .inr ⟨n, e, ?_⟩
    rcases on_iffU.mp h with z | ⟨m, z, hm⟩
    · rw [z]; exact hn
    · have y := u.vd _ _ z
      have y2 : viewAt S.views b < m := y
      omega
/-- two versions of one row, seen by one that isn't gone -/
theorem Uq.one {S : Stand} (u : Uq S) {w : Int} (hw : ¬ Gn S.fates w) {i j : Nat} {v x : Ver} (hij : i < j) (hi : S.vers[i]? = some v) (hj : S.vers[j]? = some x) (hr : v.row = x.row)
    (h1 : onV S.fates (some w) (viewAt S.views w) v = true) (h2 : onV S.fates (some w) (viewAt S.views w) x = true) : False := by
  obtain ⟨m1, e1⟩ := onV_iffU h1
  obtain ⟨m2, _⟩ := onV_iffU h2
  rcases u.ch i j v x hij hi hj hr with z | z | ⟨e, he, l⟩
  · exact on_notGn hw m1 z
  · exact on_notGn hw m2 z
  · exact e1 e he (le_on u l m2)
theorem gn_setU {fs : List Fate} {who : Nat} {f : Fate} (hl : fs[who]? = some .live) {m : Int} (h : Gn fs m) : Gn (fs.set who f) m := by
  unfold Gn at h ⊢
  rw [List.getElem?_set_ne]
  · exact h
  · intro e
    rw [← e, hl] at h
    cases h
theorem done_setU {fs : List Fate} {who : Nat} {f : Fate} (hl : fs[who]? = some .live) {b : Nat} {n : Int} (h : fs[b]? = some (.done n)) : (fs.set who f)[b]? = some (.done n) := by
  rw [List.getElem?_set_ne]
  · exact h
  · intro e
    rw [← e, hl] at h
    cases h
theorem Uq.fates {S : Stand} (u : Uq S) {who : Nat} {f : Fate} (hl : S.fates[who]? = some .live) (hv : ∀ n, f = .done n → (S.views[who]?).getD 0 < n) : Uq ⟨S.cols, S.vers, S.fates.set who f, S.views⟩ := by
  refine ⟨fun b n h => ?_, fun i j v x hij hi hj hr => ?_⟩
  · have h' : (S.fates.set who f)[b]? = some (.done n) := h
    by_cases e : who = b
    · subst e
      have hlt : who < S.fates.length := (List.getElem?_eq_some_iff.mp hl).1
      rw [List.getElem?_set_self hlt] at h'
      exact hv n (Option.some.inj h')
    · rw [List.getElem?_set_ne e] at h'
      exact u.vd b n h'
  · rcases u.ch i j v x hij hi hj hr with z | z | ⟨e, he, l⟩
    · exact .inl (gn_setU hl z)
    · exact .inr (.inl (gn_setU hl z))
    · refine .inr (.inr ⟨e, he, ?_⟩)
      rcases l with z | ⟨n, z, hn⟩
      · exact .inl z
      · exact .inr ⟨n, done_setU hl z, hn⟩
theorem set_atU {l : List Ver} {i : Nat} {v x : Ver} (hi : l[i]? = some v) {a : Nat} {y : Ver} (h : (l.set i x)[a]? = some y) : (a = i ∧ y = x) ∨ (a ≠ i ∧ l[a]? = some y) := by
  by_cases e : i = a
  · subst e
    rw [List.getElem?_set_self (List.getElem?_eq_some_iff.mp hi).1] at h
    exact .inl ⟨rfl, (Option.some.inj h).symm⟩
  · rw [List.getElem?_set_ne e] at h
    exact .inr ⟨fun z => e z.symm, h⟩
theorem app_atU {l : List Ver} {x y : Ver} {a : Nat} (h : (l ++ [x])[a]? = some y) : (a = l.length ∧ y = x) ∨ (a < l.length ∧ l[a]? = some y) := by
  rcases Nat.lt_or_ge a l.length with z | z
  · rw [List.getElem?_append_left z] at h
    exact .inr ⟨z, h⟩
  · rw [List.getElem?_append_right z] at h
    have e : a - l.length = 0 := by
      have := (List.getElem?_eq_some_iff.mp h).1
      simp at this
      omega
    rw [e] at h
    exact .inl ⟨by omega, (Option.some.inj h).symm⟩
/-- one version's ender is written -/
theorem Uq.ended {S : Stand} (u : Uq S) {i0 : Nat} {v0 : Ver} {wr : Int} (h0 : S.vers[i0]? = some v0) (he : ∀ j, v0.ender = some j → S.fates[j.toNat]? = some .gone) :
    ∀ (i j : Nat) (v x : Ver), i < j → (S.vers.set i0 { v0 with ender := some wr })[i]? = some v → (S.vers.set i0 { v0 with ender := some wr })[j]? = some x → v.row = x.row → Gn S.fates v.maker ∨ Gn S.fates x.maker ∨ ∃ e, v.ender = some e ∧ LeW S.fates S.views e x.maker := by
  intro i j v x hij hi hj hr
  obtain ⟨x1, b1, b2, b3⟩ : ∃ x1, S.vers[j]? = some x1 ∧ x1.row = x.row ∧ x1.maker = x.maker := by
    rcases set_atU h0 hj with ⟨e, y⟩ | ⟨_, y⟩
    · subst e y; exact ⟨v0, h0, rfl, rfl⟩
    · exact ⟨x, y, rfl, rfl⟩
  rcases set_atU h0 hi with ⟨e, y⟩ | ⟨_, y⟩
  · subst e y
    rcases u.ch i j v0 x1 hij h0 b1 (by rw [b2]; exact hr) with z | z | ⟨e, z, l⟩
    · exact .inl z
    · exact .inr (.inl (b3 ▸ z))
    · have g := he e z
      rcases l with q | ⟨n, q, _⟩
      · exact .inr (.inl (by rw [← b3, ← q]; exact g))
      · rw [g] at q; cases q
  · rcases u.ch i j v x1 hij y b1 (by rw [b2]; exact hr) with z | z | ⟨e, z, l⟩
    · exact .inl z
    · exact .inr (.inl (b3 ▸ z))
    · exact .inr (.inr ⟨e, z, b3 ▸ l⟩)
theorem Uq.step {S S' : Stand} (d : DeedOk S) (u : Uq S) (s : Step S S') : Uq S' := by
  have ok := d.ok
  cases s with
  | begin h =>
    have mk : ∀ v ∈ S.vers, v.maker.toNat < S.fates.length := fun v hv => by
      have := (ok.vers v hv).maker
      omega
    have fl : ∀ {b : Nat} {f : Fate}, S.fates[b]? = some f → (S.fates ++ [Fate.live])[b]? = some f := fun {b f} e => by
      rw [List.getElem?_append_left (List.getElem?_eq_some_iff.mp e).1]; exact e
    refine ⟨fun b n e => ?_, fun i j v x hij hi hj hr => ?_⟩
    · have e' : (S.fates ++ [Fate.live])[b]? = some (.done n) := e
      rcases Nat.lt_or_ge b S.fates.length with z | z
      · rw [List.getElem?_append_left z] at e'
        show ((S.views ++ [((nums S.fates).length : Int)])[b]?).getD 0 < n
        rw [List.getElem?_append_left (by rw [ok.views]; exact z)]
        exact u.vd b n e'
      · rw [List.getElem?_append_right z] at e'
        have y : b - S.fates.length = 0 := by
          have := (List.getElem?_eq_some_iff.mp e').1
          simp at this
          omega
        rw [y] at e'
        cases e'
    · rcases u.ch i j v x hij hi hj hr with z | z | ⟨e, he, l⟩
      · exact .inl (fl z)
      · exact .inr (.inl (fl z))
      · refine .inr (.inr ⟨e, he, ?_⟩)
        rcases l with z | ⟨n, z, hn⟩
        · exact .inl z
        · refine .inr ⟨n, fl z, ?_⟩
          show n ≤ ((S.views ++ [((nums S.fates).length : Int)])[x.maker.toNat]?).getD 0
          rw [List.getElem?_append_left (by rw [ok.views]; exact mk x (List.mem_of_getElem? hj))]
          exact hn
  | gone who h => exact u.fates h fun n z => by cases z
  | done who h =>
    refine u.fates h fun n z => ?_
    cases z
    cases q : S.views[who]? with
    | none => show (0 : Int) < _; omega
    | some y =>
      have := (ok.view y (List.mem_of_getElem? q)).2
      show y < _
      omega
  | wrote who h hz w =>
    have nw : ¬ Gn S.fates (who : Int) := fun g => by
      have g' : S.fates[who]? = some .gone := g
      rw [h] at g'
      cases g'
    refine ⟨u.vd, ?_⟩
    cases w with
    | put row vals hr h0 hl hb =>
      intro i j v x hij hi hj hrow
      rcases app_atU hj with ⟨e, y⟩ | ⟨lt, y⟩
      · rcases app_atU hi with ⟨e2, _⟩ | ⟨_, y2⟩
        · omega
        · have := hr v (List.mem_of_getElem? y2)
          rw [hrow, y] at this
          exact absurd this (Int.lt_irrefl _)
      · rcases app_atU hi with ⟨e2, _⟩ | ⟨_, y2⟩
        · omega
        · exact u.ch i j v x hij y2 y hrow
    | strike i0 v0 hi0 hs he => exact u.ended hi0 he
    | turn i0 v0 vals root hi0 hs he hl hb hr =>
      intro i j v x hij hi hj hrow
      obtain ⟨on0, _⟩ := onV_iffU hs
      have g0 := on_notGn nw on0
      rcases app_atU hj with ⟨ej, y⟩ | ⟨ltj, y⟩
      · rcases app_atU hi with ⟨e2, _⟩ | ⟨_, y2⟩
        · omega
        · subst y
          have hrow' : v.row = v0.row := hrow
          rcases set_atU hi0 y2 with ⟨e3, y3⟩ | ⟨n3, y3⟩
          · subst y3
            exact .inr (.inr ⟨_, rfl, .inl rfl⟩)
          · rcases Nat.lt_or_gt_of_ne n3 with lt | gt
            · rcases u.ch i i0 v v0 lt y3 hi0 hrow' with z | z | ⟨e, z, l⟩
              · exact .inl z
              · exact absurd z g0
              · have o := le_on u l on0
                refine .inr (.inr ⟨e, z, ?_⟩)
                rcases on_iffU.mp o with q | ⟨n, q, hn⟩
                · exact .inl q.symm
                · exact .inr ⟨n, q, hn⟩
            · rcases u.ch i0 i v0 v gt hi0 y3 hrow'.symm with z | z | ⟨e, z, l⟩
              · exact absurd z g0
              · exact .inl z
              · have g := he e z
                rcases l with q | ⟨n, q, _⟩
                · exact .inl (by rw [← q]; exact g)
                · rw [g] at q; cases q
      · rcases app_atU hi with ⟨e2, _⟩ | ⟨_, y2⟩
        · rw [List.length_set] at e2 ltj
          omega
        · exact u.ended hi0 he i j v x hij y2 y hrow
theorem Reach.uq {w : Int} {S : Stand} (hw : 1 ≤ w ∧ w ≤ 3) (r : Reach w S) : Uq S := by
  induction r with
  | nil => exact ⟨(fun b n h => by cases h), (fun i j v x _ h => by cases h)⟩
  | step r s ih => exact Uq.step (r.ok hw) ih s

/-! ### what may go -/
section
variable {h : MH} {Q : DK} {E : DXK} {S : Stand} {v : Ver} {least c : Int}
end
theorem StandOk.sml {S : Stand} (k : StandOk S) : Sml 5 900 S.enc := by
  have hn : (DL.G.nums S.fates).length ≤ S.fates.length := List.length_filterMap_le _ _
  have hm := k.many
  have hf : ∀ x ∈ S.fates.map Fate.enc, sOk 1 x = true ∧ nodes 1 x ≤ 3 := fun x hx => by
    obtain ⟨f, hf, rfl⟩ := List.mem_map.mp hx
    exact fate_small fun i hi => by have := k.numIn f hf i hi; omega
  refine ⟨sOk_tup fun x hx => ?_, ?_⟩
  · simp only [List.mem_cons, List.not_mem_nil, or_false] at hx
    rcases hx with rfl | rfl | rfl | rfl
    · have := k.cols
      exact sOk_int (by omega)
    · exact sOk_tup fun x hx => by
        obtain ⟨v, hv, rfl⟩ := List.mem_map.mp hx
        exact sOk_up 2 3 _ (by decide) (k.verIn v hv).sOk
    · exact sOk_tup fun x hx => sOk_up 1 3 _ (by decide) (hf x hx).1
    · exact sOk_tup (sOk_ints fun x hx => by have := k.view x hx; omega)
  · have e : nodes 5 S.enc = 1 + (nodes 4 (.int S.cols) + ((1 + ((S.vers.map Ver.enc).map (nodes 3)).sum) + ((1 + ((S.fates.map Fate.enc).map (nodes 3)).sum) + ((1 + ((S.views.map PyData.int).map (nodes 3)).sum) + 0)))) := rfl
    have z1 := nodes_le (n := 3) (c := 17) (xs := S.vers.map Ver.enc) fun x hx => by
      obtain ⟨v, hv, rfl⟩ := List.mem_map.mp hx
      rw [nodes_up 2 3 _ (by decide) (k.verIn v hv).sOk]
      exact (k.verIn v hv).nodes
    have z2 := nodes_le (n := 3) (c := 3) (xs := S.fates.map Fate.enc) fun x hx => by
      rw [nodes_up 1 3 _ (by decide) (hf x hx).1]
      exact (hf x hx).2
    have z3 := k.views
    have z4 := k.size
    rw [List.length_map] at z1 z2
    rw [e, nodes_int, nodes_ints]
    omega

/-! ### while, ranges with steps, sorted sets of tuples -/
/-! sorted sets -/
def RunOf (ms ks : List (List Int)) : Prop := ms.Pairwise (fun a b => lexL a b = true) ∧ ∀ k, k ∈ ms ↔ k ∈ ks
theorem RunOf.nodup {ms ks : List (List Int)} (r : RunOf ms ks) : ms.Nodup := r.1.imp fun {a b} z e => by subst e; rw [lex_irr] at z; cases z
theorem RunOf.uniq {ms ls ks : List (List Int)} (r : RunOf ms ks) (s : RunOf ls ks) : ms = ls := by
  have p : ms.Perm ls := (List.perm_ext_iff_of_nodup r.nodup s.nodup).mpr fun k => (r.2 k).trans (s.2 k).symm
  exact p.eq_of_pairwise (le := fun a b => lexL a b = true) (fun a b _ _ h1 h2 => by rw [lex_asym a b h1] at h2; cases h2) r.1 s.1
theorem nodup_len {α : Type} [DecidableEq α] : ∀ (l D : List α), l.Nodup → (∀ x ∈ l, x ∈ D) → l.length ≤ D.length
  | [], _, _, _ => Nat.zero_le _
  | x :: l, D, n, h => by
    have hx := h x List.mem_cons_self
    obtain ⟨n1, n2⟩ := List.nodup_cons.mp n
    have ih := nodup_len l (D.erase x) n2 fun y hy => (List.mem_erase_of_ne fun (z : y = x) => n1 (by rw [← z]; exact hy)).mpr (h y (List.mem_cons_of_mem _ hy))
    rw [List.length_erase_of_mem hx] at ih
    have := List.length_pos_of_mem hx
    rw [List.length_cons]
    omega
def sstK (QL : List PyData → MH → Prop) : DK := fun x h1 => match asL h1 x with
  | some ds => ∃ (ks : List (List Int)) (m : Nat), ds = ks.map tupN ∧ ks.length < 64 ∧ 1 ≤ m ∧ (∀ k ∈ ks, k.length = m) ∧ ∀ ms : List (List Int), ms.Pairwise (fun a b => lexL a b = true) → (∀ k, k ∈ ms ↔ k ∈ ks) → QL (ms.map tupN) h1
  | none => False
theorem e_sst {ta : DTE} {σ : DSt} {h : MH} {QL : List PyData → MH → Prop} (k : ta σ h (sstK QL)) : fSortSetT ta σ h QL := k
/-! ### things of any kind -/
def isTupB : PyData → Bool
  | .tuple _ => true
  | _ => false
def isLstB : PyData → Bool
  | .list _ => true
  | _ => false
def isStrB : PyData → Bool
  | .str _ => true
  | _ => false
def isBoolB : PyData → Bool
  | .bool _ => true
  | _ => false
def isIntB : PyData → Bool
  | .int _ => true
  | .bool _ => true
  | _ => false
def numB : PyData → Bool
  | .int _ => true
  | _ => false
def itemsT : PyData → List PyData
  | .tuple xs => xs
  | _ => []
theorem kb_tup : ∀ d : PyData, kitB (tyN d) "tuple" = some (isTupB d)
  | .none => (by decide +kernel : kitB "NoneType" "tuple" = some false)
  | .bool _ => (by decide +kernel : kitB "bool" "tuple" = some false)
  | .int _ => (by decide +kernel : kitB "int" "tuple" = some false)
  | .str _ => (by decide +kernel : kitB "str" "tuple" = some false)
  | .list _ => (by decide +kernel : kitB "list" "tuple" = some false)
  | .tuple _ => (by decide +kernel : kitB "tuple" "tuple" = some true)
  | .dict _ => (by decide +kernel : kitB "dict" "tuple" = some false)
theorem kb_lst : ∀ d : PyData, kitB (tyN d) "list" = some (isLstB d)
  | .none => (by decide +kernel : kitB "NoneType" "list" = some false)
  | .bool _ => (by decide +kernel : kitB "bool" "list" = some false)
  | .int _ => (by decide +kernel : kitB "int" "list" = some false)
  | .str _ => (by decide +kernel : kitB "str" "list" = some false)
  | .list _ => (by decide +kernel : kitB "list" "list" = some true)
  | .tuple _ => (by decide +kernel : kitB "tuple" "list" = some false)
  | .dict _ => (by decide +kernel : kitB "dict" "list" = some false)
theorem kb_str : ∀ d : PyData, kitB (tyN d) "str" = some (isStrB d)
  | .none => (by decide +kernel : kitB "NoneType" "str" = some false)
  | .bool _ => (by decide +kernel : kitB "bool" "str" = some false)
  | .int _ => (by decide +kernel : kitB "int" "str" = some false)
  | .str _ => (by decide +kernel : kitB "str" "str" = some true)
  | .list _ => (by decide +kernel : kitB "list" "str" = some false)
  | .tuple _ => (by decide +kernel : kitB "tuple" "str" = some false)
  | .dict _ => (by decide +kernel : kitB "dict" "str" = some false)
theorem kb_bool : ∀ d : PyData, kitB (tyN d) "bool" = some (isBoolB d)
  | .none => (by decide +kernel : kitB "NoneType" "bool" = some false)
  | .bool _ => (by decide +kernel : kitB "bool" "bool" = some true)
  | .int _ => (by decide +kernel : kitB "int" "bool" = some false)
  | .str _ => (by decide +kernel : kitB "str" "bool" = some false)
  | .list _ => (by decide +kernel : kitB "list" "bool" = some false)
  | .tuple _ => (by decide +kernel : kitB "tuple" "bool" = some false)
  | .dict _ => (by decide +kernel : kitB "dict" "bool" = some false)
theorem kb_int : ∀ d : PyData, kitB (tyN d) "int" = some (isIntB d)
  | .none => (by decide +kernel : kitB "NoneType" "int" = some false)
  | .bool _ => (by decide +kernel : kitB "bool" "int" = some true)
  | .int _ => (by decide +kernel : kitB "int" "int" = some true)
  | .str _ => (by decide +kernel : kitB "str" "int" = some false)
  | .list _ => (by decide +kernel : kitB "list" "int" = some false)
  | .tuple _ => (by decide +kernel : kitB "tuple" "int" = some false)
  | .dict _ => (by decide +kernel : kitB "dict" "int" = some false)
section
variable {h : MH} {Q : DK} {E : DXK} {σ : DSt}
theorem k_isTup {d : PyData} (k : Q (.d (.bool (isTupB d))) h) : isK "tuple" Q (.d d) h := k_isT rfl (kb_tup d) k
theorem k_isLst {d : PyData} (k : Q (.d (.bool (isLstB d))) h) : isK "list" Q (.d d) h := k_isT rfl (kb_lst d) k
theorem k_isStr {d : PyData} (k : Q (.d (.bool (isStrB d))) h) : isK "str" Q (.d d) h := k_isT rfl (kb_str d) k
theorem k_isBool {d : PyData} (k : Q (.d (.bool (isBoolB d))) h) : isK "bool" Q (.d d) h := k_isT rfl (kb_bool d) k
theorem k_isInt {d : PyData} (k : Q (.d (.bool (isIntB d))) h) : isK "int" Q (.d d) h := k_isT rfl (kb_int d) k
end
local macro_rules | `(tactic| walk_at "gl1") => `(tactic| first
  | walk_at "dl1"
  | with_reducible refine e_wZip ?_
  | with_reducible refine k_zipT ?_
  | with_reducible refine e_isT ?_
  | with_reducible refine k_isTup ?_
  | with_reducible refine k_isLst ?_
  | with_reducible refine k_isStr ?_
  | with_reducible refine k_isBool ?_
  | with_reducible refine k_isInt ?_)
local macro_rules | `(tactic| walk_at "gl") => `(tactic| repeat walk_at "gl1")
section
variable {h : MH} {Q : DK} {E : DXK} {σ : DSt}
/-- a triple of numbers -/
def tripB (d : PyData) : Bool := isTupB d && (decide ((itemsT d).length = 3) && (itemsT d).all numB)
end
/-! rising triples -/
section
variable {h : MH} {Q : DK} {E : DXK} {σ : DSt}
end

/-! ### data with great numbers, composed; spoilt things -/
def bOk : Nat → PyData → Bool
  | _, .none => true
  | _, .bool _ => true
  | _, .int i => decide (i.natAbs < 10 ^ 60)
  | _, .str x => PySem.PyData.strOk x && decide ((reprText x).length ≤ 60)
  | n + 1, .list xs => xs.all (bOk n)
  | n + 1, .tuple xs => xs.all (bOk n)
  | 0, .list _ => false
  | 0, .tuple _ => false
  | _, .dict _ => false
theorem bOk_dOk : ∀ (n : Nat) (d : PyData), bOk n d = true → dOk n d = true
  | n, .none, _ => by cases n <;> rfl
  | n, .bool _, _ => by cases n <;> rfl
  | n, .int _, _ => by cases n <;> rfl
  | n, .str x, h => by cases n <;> simp [bOk] at h <;> simpa [dOk] using h.1
  | n + 1, .list xs, h => by
    have z : ∀ x ∈ xs, bOk n x = true := List.all_eq_true.mp (by simpa [bOk] using h)
    simp only [dOk]
    exact List.all_eq_true.mpr fun x hx => bOk_dOk n x (z x hx)
  | n + 1, .tuple xs, h => by
    have z : ∀ x ∈ xs, bOk n x = true := List.all_eq_true.mp (by simpa [bOk] using h)
    simp only [dOk]
    exact List.all_eq_true.mpr fun x hx => bOk_dOk n x (z x hx)
  | 0, .list _, h => by simp [bOk] at h
  | 0, .tuple _, h => by simp [bOk] at h
  | n, .dict _, h => by cases n <;> simp [bOk] at h
theorem bOk_up : ∀ (n m : Nat) (d : PyData), n ≤ m → bOk n d = true → bOk m d = true
  | n, m, .none, _, _ => by cases m <;> rfl
  | n, m, .bool _, _, _ => by cases m <;> rfl
  | n, m, .int _, _, h => by cases n <;> cases m <;> simpa [bOk] using h
  | n, m, .str x, _, h => by cases n <;> cases m <;> simpa [bOk] using h
  | n + 1, m + 1, .list xs, hl, h => by
    have z : ∀ x ∈ xs, bOk n x = true := List.all_eq_true.mp (by simpa [bOk] using h)
    simp only [bOk]
    exact List.all_eq_true.mpr fun x hx => bOk_up n m x (by omega) (z x hx)
  | n + 1, m + 1, .tuple xs, hl, h => by
    have z : ∀ x ∈ xs, bOk n x = true := List.all_eq_true.mp (by simpa [bOk] using h)
    simp only [bOk]
    exact List.all_eq_true.mpr fun x hx => bOk_up n m x (by omega) (z x hx)
  | n + 1, 0, .list _, hl, _ => by omega
  | n + 1, 0, .tuple _, hl, _ => by omega
  | 0, _, .list _, _, h => by simp [bOk] at h
  | 0, _, .tuple _, _, h => by simp [bOk] at h
  | n, _, .dict _, _, h => by cases n <;> simp [bOk] at h
theorem nodes_upB : ∀ (n m : Nat) (d : PyData), n ≤ m → bOk n d = true → nodes m d = nodes n d
  | n, m, .none, _, _ => by cases n <;> cases m <;> rfl
  | n, m, .bool _, _, _ => by cases n <;> cases m <;> rfl
  | n, m, .int _, _, _ => by cases n <;> cases m <;> rfl
  | n, m, .str x, _, _ => by cases n <;> cases m <;> rfl
  | n + 1, m + 1, .list xs, hl, h => by
    have z : ∀ x ∈ xs, bOk n x = true := List.all_eq_true.mp (by simpa [bOk] using h)
    show 1 + (xs.map (nodes m)).sum = 1 + (xs.map (nodes n)).sum
    rw [List.map_congr_left fun x hx => nodes_upB n m x (by omega) (z x hx)]
  | n + 1, m + 1, .tuple xs, hl, h => by
    have z : ∀ x ∈ xs, bOk n x = true := List.all_eq_true.mp (by simpa [bOk] using h)
    show 1 + (xs.map (nodes m)).sum = 1 + (xs.map (nodes n)).sum
    rw [List.map_congr_left fun x hx => nodes_upB n m x (by omega) (z x hx)]
  | n + 1, 0, .list _, hl, _ => by omega
  | n + 1, 0, .tuple _, hl, _ => by omega
  | 0, _, .list _, _, h => by simp [bOk] at h
  | 0, _, .tuple _, _, h => by simp [bOk] at h
  | n, _, .dict _, _, h => by cases n <;> simp [bOk] at h
theorem sum_leB {f g : PyData → Nat} : ∀ {xs : List PyData}, (∀ x ∈ xs, f x + 2 ≤ 66 * g x) → (xs.map f).sum + 2 * xs.length ≤ 66 * (xs.map g).sum
  | [], _ => by simp
  | x :: xs, h => by
    have a := h x List.mem_cons_self
    have b := sum_leB (xs := xs) fun y hy => h y (List.mem_cons_of_mem _ hy)
    simp only [List.map_cons, List.sum_cons, List.length_cons]
    omega
theorem show_leB : ∀ (n : Nat) (d : PyData), bOk n d = true → d.shown.length + 2 ≤ 66 * nodes n d ∧ d.showable = true
  | n, .none, _ => ⟨by cases n <;> (simp only [nodes]; decide), by simp only [PyData.showable]⟩
  | n, .bool b, _ => ⟨by cases n <;> cases b <;> (simp only [nodes]; decide), by simp only [PyData.showable]⟩
  | n, .int i, h => by
    have z : i.natAbs < 10 ^ 60 := by cases n <;> simpa [bOk] using h
    have e : (Str.ofString (toString i)).length ≤ 61 := by
      rw [PySem.ofString_length]
      exact int_text_length_le10 (k := 60) (by decide) z
    refine ⟨?_, ?_⟩
    · have e2 : (PyData.int i).shown = Str.ofString (toString i) := by simp only [PyData.shown] <;> rfl
      rw [e2]
      cases n <;> (simp only [nodes]; omega)
    · simp only [PyData.showable]
      refine decide_eq_true ?_
      by_cases q : i.natAbs = 0
      · rw [q]; decide
      · exact Nat.lt_trans ((Nat.log2_lt (k := 200) q).mpr (Nat.lt_trans z (by decide +kernel))) (by decide)
  | n, .str x, h => by
    have z : (reprText x).length ≤ 60 := by cases n <;> (simp [bOk] at h; exact h.2)
    refine ⟨?_, by simp only [PyData.showable]⟩
    have e2 : (PyData.str x).shown = reprText x := by simp only [PyData.shown]
    rw [e2]
    cases n <;> (simp only [nodes]; omega)
  | n + 1, .list xs, h => by
    have z : ∀ x ∈ xs, bOk n x = true := List.all_eq_true.mp (by simpa [bOk] using h)
    have a := listText_len_le (PyData.shownAll xs)
    have b := sum_leB (f := fun x => x.shown.length) (g := nodes n) fun x hx => (show_leB n x (z x hx)).1
    rw [shownAll_eq, List.map_map, List.length_map] at a
    refine ⟨?_, ?_⟩
    · have e2 : (PyData.list xs).shown = listText (xs.map PyData.shown) := by simp only [PyData.shown, shownAll_eq]
      rw [e2]
      simp only [nodes]
      have c : (xs.map ((fun x => x.length) ∘ PyData.shown)).sum = (xs.map fun x => x.shown.length).sum := rfl
      omega
    · simp only [PyData.showable]
      clear a b h
      induction xs with
      | nil => rfl
      | cons x xs ih =>
        simp only [PyData.showableAll, Bool.and_eq_true]
        exact ⟨(show_leB n x (z x List.mem_cons_self)).2, ih fun y hy => z y (List.mem_cons_of_mem _ hy)⟩
  | n + 1, .tuple xs, h => by
    have z : ∀ x ∈ xs, bOk n x = true := List.all_eq_true.mp (by simpa [bOk] using h)
    have a := tupleText_len_le (PyData.shownAll xs)
    have b := sum_leB (f := fun x => x.shown.length) (g := nodes n) fun x hx => (show_leB n x (z x hx)).1
    rw [shownAll_eq, List.map_map, List.length_map] at a
    refine ⟨?_, ?_⟩
    · have e2 : (PyData.tuple xs).shown = tupleText (xs.map PyData.shown) := by simp only [PyData.shown, shownAll_eq]
      rw [e2]
      simp only [nodes]
      have c : (xs.map ((fun x => x.length) ∘ PyData.shown)).sum = (xs.map fun x => x.shown.length).sum := rfl
      omega
    · simp only [PyData.showable]
      clear a b h
      induction xs with
      | nil => rfl
      | cons x xs ih =>
        simp only [PyData.showableAll, Bool.and_eq_true]
        exact ⟨(show_leB n x (z x List.mem_cons_self)).2, ih fun y hy => z y (List.mem_cons_of_mem _ hy)⟩
  | 0, .list _, h => by simp [bOk] at h
  | 0, .tuple _, h => by simp [bOk] at h
  | n, .dict _, h => by cases n <;> simp [bOk] at h
theorem reprOk_ofB {n : Nat} {d : PyData} (hn : n ≤ 32) (h : bOk n d = true) (hz : 66 * nodes n d ≤ 16777216) : reprOk d := by
  obtain ⟨a, b⟩ := show_leB n d h
  obtain ⟨c, e⟩ := dOk_ok n d (bOk_dOk n d h)
  exact ⟨b, PyData.hasDict_of_canLay d c, by omega, by rw [sizeLine_eq]; omega⟩
def Big (n c : Nat) (d : PyData) : Prop := bOk n d = true ∧ nodes n d ≤ c
def BigL (n c : Nat) (xs : List PyData) : Prop := (∀ x ∈ xs, bOk n x = true) ∧ (xs.map (nodes n)).sum ≤ c
theorem Big.repr {n c : Nat} {d : PyData} (h : Big n c d) (hn : n ≤ 32 := by first | decide | omega) (hc : c ≤ 250000 := by first | decide | omega) : reprOk d := reprOk_ofB hn h.1 (by have := h.2; omega)
theorem Big.shaped {n c : Nat} {d : PyData} (h : Big n c d) (hn : n ≤ 64 := by first | decide | omega) : SeqAt.shaped d = true := shaped_ok hn (bOk_dOk n d h.1)
theorem Big.up {n m c c' : Nat} {d : PyData} (h : Big n c d) (hn : n ≤ m := by first | decide | omega) (hc : c ≤ c' := by first | decide | omega) : Big m c' d := ⟨bOk_up n m d hn h.1, by rw [nodes_upB n m d hn h.1]; exact Nat.le_trans h.2 hc⟩
theorem BigL.up {n m c c' : Nat} {d : List PyData} (h : BigL n c d) (hn : n ≤ m := by first | decide | omega) (hc : c ≤ c' := by first | decide | omega) : BigL m c' d := ⟨fun x hx => bOk_up n m x hn (h.1 x hx), by
  rw [List.map_congr_left fun x hx => nodes_upB n m x hn (h.1 x hx)]
  exact Nat.le_trans h.2 hc⟩
theorem BigL.nil {n : Nat} : BigL n 0 [] := ⟨fun x hx => (by cases hx), by simp⟩
theorem BigL.cons {n a b : Nat} {x : PyData} {xs : List PyData} (h : Big n a x) (t : BigL n b xs) : BigL n (a + b) (x :: xs) := ⟨fun y hy => by
  rcases List.mem_cons.mp hy with rfl | q
  · exact h.1
  · exact t.1 y q, by rw [List.map_cons, List.sum_cons]; exact Nat.add_le_add h.2 t.2⟩
theorem BigL.all {n c k : Nat} {xs : List PyData} (h : ∀ x ∈ xs, Big n c x) (hl : xs.length ≤ k) : BigL n (c * k) xs := ⟨fun x hx => (h x hx).1, Nat.le_trans (nodes_le fun x hx => (h x hx).2) (Nat.mul_le_mul_left _ hl)⟩
theorem BigL.tup {n c : Nat} {xs : List PyData} (h : BigL n c xs) : Big (n + 1) (c + 1) (.tuple xs) := ⟨by simp only [bOk]; exact List.all_eq_true.mpr h.1, by
  have e : nodes (n + 1) (.tuple xs) = 1 + (xs.map (nodes n)).sum := rfl
  rw [e]; have := h.2; omega⟩
theorem BigL.lst {n c : Nat} {xs : List PyData} (h : BigL n c xs) : Big (n + 1) (c + 1) (.list xs) := ⟨by simp only [bOk]; exact List.all_eq_true.mpr h.1, by
  have e : nodes (n + 1) (.list xs) = 1 + (xs.map (nodes n)).sum := rfl
  rw [e]; have := h.2; omega⟩
theorem nodes_pos (n : Nat) (d : PyData) : 1 ≤ nodes n d := by cases n <;> cases d <;> simp [nodes]
theorem BigL.len {n c : Nat} {xs : List PyData} (h : BigL n c xs) : xs.length ≤ c := by
  refine Nat.le_trans ?_ h.2
  have go : ∀ l : List PyData, l.length ≤ (l.map (nodes n)).sum := fun l => by
    induction l with
    | nil => simp
    | cons x l ih =>
      rw [List.map_cons, List.sum_cons, List.length_cons]
      have := nodes_pos n x
      omega
  exact go xs
theorem BigL.mem {n c : Nat} {xs : List PyData} (h : BigL n c xs) {x : PyData} (hx : x ∈ xs) : Big n c x := ⟨h.1 x hx, by
  refine Nat.le_trans ?_ h.2
  clear h
  induction xs with
  | nil => cases hx
  | cons y xs ih =>
    rw [List.map_cons, List.sum_cons]
    rcases List.mem_cons.mp hx with rfl | q
    · omega
    · have := ih q
      omega⟩
theorem Big.none {n : Nat} : Big n 1 .none := ⟨by cases n <;> rfl, by cases n <;> exact Nat.le_refl 1⟩
theorem Big.bool {n : Nat} {b : Bool} : Big n 1 (.bool b) := ⟨by cases n <;> rfl, by cases n <;> exact Nat.le_refl 1⟩
theorem Big.int {n : Nat} {i : Int} (h : -(10 ^ 59) ≤ i ∧ i ≤ 10 ^ 59) : Big n 1 (.int i) := ⟨by cases n <;> (simp only [bOk]; exact decide_eq_true (by omega)), by cases n <;> exact Nat.le_refl 1⟩
theorem Big.str {n : Nat} {x : Str} (h : (PySem.PyData.strOk x && decide ((reprText x).length ≤ 60)) = true := by decide +kernel) : Big n 1 (.str x) := ⟨by cases n <;> exact h, by cases n <;> exact Nat.le_refl 1⟩
theorem sOk_bOk : ∀ (n : Nat) (d : PyData), sOk n d = true → bOk n d = true
  | n, .none, _ => by cases n <;> rfl
  | n, .bool _, _ => by cases n <;> rfl
  | n, .int i, h => by
    have z : i.natAbs < 10 ^ 20 := by cases n <;> simpa [sOk] using h
    have z2 : i.natAbs < 10 ^ 60 := Nat.lt_trans z (by decide +kernel)
    cases n <;> (simp only [bOk]; exact decide_eq_true z2)
  | n, .str x, h => by
    have z : PySem.PyData.strOk x = true ∧ (reprText x).length ≤ 24 := by cases n <;> simpa [sOk] using h
    have y : (PySem.PyData.strOk x && decide ((reprText x).length ≤ 60)) = true := by
      rw [z.1, decide_eq_true (by omega)]
      rfl
    cases n <;> exact y
  | n + 1, .list xs, h => by
    have z : ∀ x ∈ xs, sOk n x = true := List.all_eq_true.mp (by simpa [sOk] using h)
    simp only [bOk]
    exact List.all_eq_true.mpr fun x hx => sOk_bOk n x (z x hx)
  | n + 1, .tuple xs, h => by
    have z : ∀ x ∈ xs, sOk n x = true := List.all_eq_true.mp (by simpa [sOk] using h)
    simp only [bOk]
    exact List.all_eq_true.mpr fun x hx => sOk_bOk n x (z x hx)
  | 0, .list _, h => by simp [sOk] at h
  | 0, .tuple _, h => by simp [sOk] at h
  | n, .dict _, h => by cases n <;> simp [sOk] at h
theorem Sml.big {n c : Nat} {d : PyData} (h : Sml n c d) : Big n c d := ⟨sOk_bOk n d h.1, h.2⟩
theorem eqv_nilL (ys : List PyData) : PyData.eqv (.list ys) (.list []) = ys.isEmpty := by cases ys <;> simp [PyData.eqv, PyData.eqvAll]
local macro_rules | `(tactic| walk_at "gl1") => `(tactic| first
  | walk_at "dl1"
  | with_reducible refine e_isT ?_
  | with_reducible refine k_isTup ?_
  | with_reducible refine k_isLst ?_
  | with_reducible refine k_isStr ?_
  | with_reducible refine k_isBool ?_
  | with_reducible refine k_isInt ?_)
local macro_rules | `(tactic| walk_at "gl") => `(tactic| repeat walk_at "gl1")
local macro_rules | `(tactic| walk_at "dl1") => `(tactic| first
  | with_reducible refine e_wZip ?_
  | with_reducible refine k_zipT ?_
  | with_reducible refine k_zipL ?_
  | with_reducible refine e_wEnum ?_
  | with_reducible refine k_enumT ?_
  | with_reducible refine k_enumL ?_
  | with_reducible refine e_minD ?_
  | with_reducible refine e_ext ?_
  | with_reducible refine e_fAdd ?_
  | ((with_reducible apply k_ext); walk_at "hp"))
local macro_rules | `(tactic| walk_at "dl1") => `(tactic| first
  | ((with_reducible apply r_ixD); walk_at "hp"; exact rfl; (first | exact fv_cells | exact fv_at | exact fv_left | exact fv_turn))
  | ((with_reducible apply k_setD); walk_at "hp"; exact rfl; (show (4 : Nat) < 16777216; decide); (first | rw [fp_at] | rw [fp_left] | rw [fp_turn]))
  | with_reducible refine r_isB ?_
  | with_reducible refine r_notB ?_)
local macro_rules | `(tactic| walk_at "dk") => `(tactic| first | decide +kernel | exact Bool.noConfusion | (intro z; simp at z; done))
local macro_rules | `(tactic| walk_at "sk1") => `(tactic| first
  | walk_at "dl1"
  | with_reducible refine k_tg2 ?_
  | with_reducible refine k_tg3 ?_
  | with_reducible refine k_tg4 ?_
  | with_reducible refine k_tg5 ?_
  | with_reducible refine k_tg6 ?_
  | ((with_reducible refine k_if (fun _ => ?_) (fun z => absurd z ?_)); rotate_left; (focus walk_at "dk"))
  | ((with_reducible refine k_if (fun z => absurd z ?_) (fun _ => ?_)); (focus walk_at "dk"))
  | ((with_reducible refine k_and (fun _ => ?_) (fun z => absurd z ?_)); rotate_left; (focus walk_at "dk"))
  | ((with_reducible refine k_and (fun z => absurd z ?_) (fun _ => ?_)); (focus walk_at "dk"))
  | ((with_reducible refine k_or (fun _ => ?_) (fun z => absurd z ?_)); rotate_left; (focus walk_at "dk"))
  | ((with_reducible refine k_or (fun z => absurd z ?_) (fun _ => ?_)); (focus walk_at "dk"))
  | ((with_reducible refine k_ifE (fun _ => ?_) (fun z => absurd z ?_)); rotate_left; (focus walk_at "dk"))
  | ((with_reducible refine k_ifE (fun z => absurd z ?_) (fun _ => ?_)); (focus walk_at "dk"))
  | ((with_reducible refine k_andV (fun _ => ?_) (fun z => absurd z ?_)); rotate_left; (focus walk_at "dk"))
  | ((with_reducible refine k_andV (fun z => absurd z ?_) (fun _ => ?_)); (focus walk_at "dk"))
  | ((with_reducible refine k_orV (fun _ => ?_) (fun z => absurd z ?_)); rotate_left; (focus walk_at "dk"))
  | ((with_reducible refine k_orV (fun z => absurd z ?_) (fun _ => ?_)); (focus walk_at "dk"))
  | ((with_reducible apply e_isXT (b := false)); exact rfl; (try dsimp only [noW]); (decide +kernel); decide; (try dsimp only [noW]); (decide +kernel))
  | ((with_reducible apply e_isXT (b := true)); exact rfl; (try dsimp only [noW]); (decide +kernel); decide; (try dsimp only [noW]); (decide +kernel))
  | ((with_reducible apply e_isX (b := true)); exact rfl; (try dsimp only [noW]); (decide +kernel))
  | ((with_reducible apply e_isX (b := false)); exact rfl; (try dsimp only [noW]); (decide +kernel))
  | ((with_reducible apply e_xf); exact rfl; (try dsimp only [noW]); (decide +kernel); rfl)
  | with_reducible refine e_raise ?_
  | with_reducible refine k_raise ?_
  | with_reducible refine tryAs_mk ?_)
local macro_rules | `(tactic| walk_at "sk") => `(tactic| repeat walk_at "sk1")

local macro_rules | `(tactic| walk_at "dl1") => `(tactic| first
  | with_reducible refine e_isT ?_
  | with_reducible refine k_isTup ?_
  | with_reducible refine k_isLst ?_
  | with_reducible refine k_isStr ?_
  | with_reducible refine k_isBool ?_
  | with_reducible refine k_isInt ?_
  | with_reducible refine e_revA ?_
  | with_reducible refine e_sortSetQ ?_
  | with_reducible refine e_wEnum ?_
  | with_reducible refine k_enumT ?_
  | with_reducible refine e_dc ?_
  | with_reducible refine e_tupRg ?_
  | with_reducible refine e_raise2 ?_
  | with_reducible refine k_raise2 ?_
  | ((with_reducible apply r_ixD); walk_at "hp"; exact rfl; (first | exact fv_cells | exact fv_at | exact fv_left | exact fv_turn))
  | ((with_reducible apply k_setD); walk_at "hp"; exact rfl; (show (4 : Nat) < 16777216; decide); (first | rw [fp_at] | rw [fp_left] | rw [fp_turn])))

/-! ### firsts, dicts by places -/
theorem notT {b : Bool} (h : (!b) = true) : b = false := by cases b <;> first | rfl | cases h
/-! dicts by what is distinct -/
section
variable {h : MH} {Q : DK}
end
/-! ### k64 -/
def seeB (S : Stand) (wr : Int) (v : Ver) : Bool := onV S.fates (some wr) (viewAt S.views wr) v
def keepR (S : Stand) (wr c : Int) (lo hi : Option Int) (v : Ver) : Bool := seeB S wr v && inB lo hi (keyAt v c)
def tripsB (d : PyData) : Bool := isTupB d && (itemsT d).all tripB
theorem three {k : List Int} (h : k.length = 3) : ∃ a b p, k = [a, b, p] := by
  match k, h with
  | [a, b, p], _ => exact ⟨a, b, p, rfl⟩
section
variable {h : MH} {Q : DK} {E : DXK} {S : Stand} {wr c : Int} {lo hi : Option Int} {σ : DSt}
theorem v_betw {kx : Int} (e0 : slot σ 0 = some (.d (.int kx))) (e1 : slot σ 1 = some (.d (optE lo))) (e2 : slot σ 2 = some (.d (optE hi))) (k : Q (.d (.bool (inB lo hi kx))) h) :
    (dAndV (dOrV (dOp rdIsN (dVar 1) (dC .none)) (dOp rdGe (dVar 0) (dVar 1))) (dOrV (dOp rdIsN (dVar 2) (dC .none)) (dOp rdLe (dVar 0) (dVar 2)))) σ h Q := by
  have second : Q (.d (.bool (hi.all fun b => decide (kx ≤ b)))) h → (dOrV (dOp rdIsN (dVar 2) (dC .none)) (dOp rdLe (dVar 0) (dVar 2))) σ h Q := fun z => by
    refine e_orV (e_op (e_var e2 (e_c (r_isN ?_))))
    cases hi with
    | none =>
      refine k_orV (fun _ => z) fun y => ?_
      cases y
    | some b =>
      refine k_orV (fun y => ?_) fun _ => ?_
      · cases y
      · exact e_op (e_var e0 (e_var e2 (r_le z)))
  refine e_andV (e_orV (e_op (e_var e1 (e_c (r_isN ?_)))))
  cases lo with
  | none =>
    refine k_orV (fun _ => ?_) fun y => ?_
    · refine k_andV (fun _ => second ?_) fun y => ?_
      · simpa [inB] using k
      · cases y
    · cases y
  | some a =>
    refine k_orV (fun y => ?_) fun _ => ?_
    · cases y
    · refine e_op (e_var e0 (e_var e1 (r_ge ?_)))
      have e : inB (some a) hi kx = (decide (a ≤ kx) && hi.all fun b => decide (kx ≤ b)) := rfl
      rw [e] at k
      refine k_andV (fun q => second ?_) fun q => ?_
      · rw [q, Bool.true_and] at k
        exact k
      · rw [q, Bool.false_and] at k
        exact k
theorem w_between {kx : Int} (k : Q (.d (.bool (inB lo hi kx))) h) : W_is_between [.d (.int kx), .d (optE lo), .d (optE hi)] h Q E := by
  refine fnW_mk rfl ?_
  unfold t_is_between
  show dRet _ _ [some (.d (.int kx)), some (.d (optE lo)), some (.d (optE hi))] h
  refine e_ret (v_betw rfl rfl rfl ?_)
  walk_at "dl"
  rw [restr_self]
  exact k
theorem w_fits {kx : Int} (k : Q (.d (.bool (inB lo hi kx))) h) : W__law_fits [.d (.int kx), .d (optE lo), .d (optE hi)] h Q E := by
  refine fnW_mk rfl ?_
  unfold t__law_fits
  show dRet _ _ [some (.d (.int kx)), some (.d (optE lo)), some (.d (optE hi))] h
  refine e_ret (v_betw rfl rfl rfl ?_)
  walk_at "dl"
  rw [restr_self]
  exact k
/-- the versions, as they are seen by the law -/
theorem w_seesL {v : Ver} (hvl : S.views.length = S.fates.length) (hw : inR S.fates.length wr = true) (hi : InV S.fates v) (k : Q (.d (.bool (seeB S wr v))) h) : W__law_sees [.d S.enc, .d v.enc, .d (.int wr)] h Q E :=
  w_seesG (fun Q z => by walk_at "dl"; exact z) (fun Q z => by walk_at "dl"; exact z) rfl rfl rfl rfl (by rw [hvl]; exact hw) hi k
theorem w_scanL (hl : S.vers.length ≤ 1000) (hvl : S.views.length = S.fates.length) (hw : inR S.fates.length wr = true) (hv : ∀ v ∈ S.vers, InV S.fates v) (hc : 0 ≤ c) (hcv : ∀ v ∈ S.vers, c < v.vals.length)
    (k : Q (.d (.tuple ((scanS c (S.vers.filter (keepR S wr c lo hi))).map (tripS c)))) h) : W__law_scan [.d S.enc, .d (.int wr), .d (.int c), .d (optE lo), .d (optE hi)] h Q E := by
  refine fnW_mk rfl ?_
  unfold t__law_scan
  show dSeq _ _ _ [some (.d S.enc), some (.d (.int wr)), some (.d (.int c)), some (.d (optE lo)), some (.d (optE hi)), none, none] h
  walk_at "dl"
  intro p hp0
  walk_at "dl"
  refine for_inv (fun rr σ h' => ∃ (l1 l2 : List Ver) (x6 : Option SV), S.vers = l1 ++ l2 ∧ rr = l2.map Ver.enc ∧ σ = [some (.d S.enc), some (.d (.int wr)), some (.d (.int c)), some (.d (optE lo)), some (.d (optE hi)), some (.own p), x6] ∧ h' = mput h p (.lst ((l1.filter (keepR S wr c lo hi)).map (tripS c)))) ?_ ?_ _ _ _
    ⟨[], S.vers, _, rfl, rfl, rfl, rfl⟩
  · rintro d rr σ h' K ⟨l1, l2, x6, e, er, rfl, rfl⟩ hK
    obtain ⟨v, l2', rfl, rfl, rfl⟩ := map_cons_inv er
    have hm : v ∈ S.vers := by rw [e]; simp
    have hl1 : (l1.filter (keepR S wr c lo hi)).length ≤ 1000 := Nat.le_trans (List.length_filter_le _ _) (by rw [e] at hl; simp at hl; omega)
    have no : keepR S wr c lo hi v = false → K [some (.d S.enc), some (.d (.int wr)), some (.d (.int c)), some (.d (optE lo)), some (.d (optE hi)), some (.own p), some (.d v.enc)] (mput h p (.lst ((l1.filter (keepR S wr c lo hi)).map (tripS c)))) := fun q => hK _ _ ⟨l1 ++ [v], l2', _, by rw [e]; simp, rfl, rfl, by rw [List.filter_append, List.filter_cons, q]; simp⟩
    refine ⟨_, rfl, ?_⟩
    walk_at "dl"
    refine w_seesL hvl hw (hv v hm) ?_
    walk_at "dl"
    refine k_and (fun q1 => ?_) fun q1 => ?_
    case' refine_2 =>
      refine k_ifF ?_
      walk_at "dl"
      exact no (by unfold keepR; rw [q1]; rfl)
    walk_at "dl"
    refine r_ixT (key_at hc (hcv v hm)) ?_
    walk_at "dl"
    refine w_fits ?_
    walk_at "dl"
    refine k_if (fun q2 => ?_) fun q2 => ?_
    case' refine_2 =>
      walk_at "dl"
      exact no (by unfold keepR; rw [q1, q2]; rfl)
    walk_at "dl"
    refine r_ixT (key_at hc (hcv v hm)) ?_
    walk_at "dl"
    refine m_append put_same (by rw [List.length_map]; omega) ?_
    rw [put_put]
    refine hK _ _ ⟨l1 ++ [v], l2', _, by rw [e]; simp, rfl, rfl, ?_⟩
    have q : keepR S wr c lo hi v = true := by unfold keepR; rw [q1, q2]; rfl
    rw [List.filter_append, List.filter_cons, q]
    simp
  · rintro σ h' ⟨l1, l2, x6, e, er, rfl, rfl⟩
    have e0 : l2 = [] := by
      cases l2 with
      | nil => rfl
      | cons _ _ => cases er
    subst e0
    rw [List.append_nil] at e
    rw [← e]
    walk_at "dl"
    refine b_sortO 3 put_same (tup3_ok c _) ?_
    rw [scanS_enc]
    walk_at "dl"
    rw [restr_drop hp0, restr_self]
    exact k
end

theorem find_filter {α : Type} {p q : α → Bool} : ∀ l : List α, (l.filter p).find? q = l.find? fun a => p a && q a
  | [] => rfl
  | a :: l => by
    rw [List.filter_cons, List.find?_cons]
    cases e : p a with
    | true =>
      rw [if_pos rfl, List.find?_cons, find_filter l, Bool.true_and]
    | false =>
      rw [if_neg (by decide), find_filter l, Bool.false_and]
theorem pair_inj {M : List Ver} (hp : M.Pairwise fun v u => v.place < u.place) {v u : Ver} (hv : v ∈ M) (hu : u ∈ M) (e : v.place = u.place) : v = u := by
  obtain ⟨i, hi, rfl⟩ := List.mem_iff_getElem.mp hv
  obtain ⟨j, hj, rfl⟩ := List.mem_iff_getElem.mp hu
  rcases Nat.lt_trichotomy i j with z | z | z
  · have := List.pairwise_iff_getElem.mp hp i j hi hj z
    omega
  · subst z; rfl
  · have := List.pairwise_iff_getElem.mp hp j i hj hi z
    omega
section
variable {h : MH} {Q : DK} {E : DXK} {S : Stand} {wr c : Int} {lo hi : Option Int} {σ : DSt}
end

/-! ### papers as drawn -/
structure Tr (N : Nat) (B : Int) (ks : List (List Int)) : Prop where
  len : ks.length ≤ N
  all : ∀ k ∈ ks, k.length = 3 ∧ ∀ x ∈ k, -B ≤ x ∧ x ≤ B
def Th (N : Nat) (B : Int) (d : PyData) : Prop := (∃ ks, Tr N B ks ∧ d = .tuple (ks.map tupN)) ∨ (Big 4 400 d ∧ (itemsT d).length ≤ 60 ∧ tripsB d = false)
theorem Tr.up {N M : Nat} {B C : Int} {ks : List (List Int)} (t : Tr N B ks) (h : N ≤ M) (h2 : B ≤ C) : Tr M C ks := ⟨Nat.le_trans t.len h, fun k hk => ⟨(t.all k hk).1, fun x hx => by have := (t.all k hk).2 x hx; omega⟩⟩
theorem Th.up {N M : Nat} {B C : Int} {d : PyData} (t : Th N B d) (h : N ≤ M) (h2 : B ≤ C) : Th M C d := by
  rcases t with ⟨ks, t, e⟩ | t
  · exact .inl ⟨ks, t.up h h2, e⟩
  · exact .inr t
theorem tup_big {k : List Int} {B : Int} (hB : B ≤ 10 ^ 50) (h : k.length = 3 ∧ ∀ x ∈ k, -B ≤ x ∧ x ≤ B) : Big 1 4 (tupN k) := by
  obtain ⟨a, b, p, rfl⟩ := three h.1
  have h1 := h.2 a (by simp)
  have h2 := h.2 b (by simp)
  have h3 := h.2 p (by simp)
  exact ((BigL.cons (n := 0) (a := 1) (Big.int (by omega)) (BigL.cons (a := 1) (Big.int (by omega)) (BigL.cons (a := 1) (Big.int (by omega)) .nil))).tup).up
theorem Tr.bigL {N : Nat} {B : Int} {ks : List (List Int)} (t : Tr N B ks) (hN : N ≤ 60) (hB : B ≤ 10 ^ 50) : BigL 1 (4 * 60) (ks.map tupN) := BigL.all (fun x hx => by
  obtain ⟨k, hk, rfl⟩ := List.mem_map.mp hx
  exact tup_big hB (t.all k hk)) (by rw [List.length_map]; have := t.len; omega)
theorem Th.big {N : Nat} {B : Int} {d : PyData} (t : Th N B d) (hN : N ≤ 60) (hB : B ≤ 10 ^ 50) : Big 4 400 d ∧ (itemsT d).length ≤ 60 := by
  rcases t with ⟨ks, t, rfl⟩ | t
  · exact ⟨(t.bigL hN hB).tup.up, by show (ks.map tupN).length ≤ 60; rw [List.length_map]; have := t.len; omega⟩
  · exact ⟨t.1, t.2.1⟩
theorem Tr.of {N : Nat} {B : Int} {L : List (List Int)} {P : List Int → Prop} (hl : L.length ≤ N) (h : ∀ k ∈ L, P k) (hp : ∀ k, P k → k.length = 3 ∧ ∀ x ∈ k, -B ≤ x ∧ x ≤ B) : Tr N B L := ⟨hl, fun k hk => hp k (h k hk)⟩
section
variable {h : MH} {Q : DK} {E : DXK} {S : Stand}
end
theorem scan_th {S : Stand} (ok : StandOk S) {c : Int} {p : Ver → Bool} : Th 42 2000 (.tuple ((scanS c (S.vers.filter p)).map (tripS c))) := by
  refine .inl ⟨(scanS c (S.vers.filter p)).map fun v => [keyAt v c, v.row, v.place], ⟨?_, fun k hk => ?_⟩, by rw [List.map_map]; rfl⟩
  · rw [List.length_map, (scanS_perm c _).length_eq]
    have := ok.size
    exact Nat.le_trans (List.length_filter_le _ _) (by omega)
  · obtain ⟨v, hv, rfl⟩ := List.mem_map.mp hk
    have m := (List.mem_filter.mp ((scanS_perm c _).mem_iff.mp hv)).1
    have o := ok.vers v m
    have hk : -999 ≤ keyAt v c ∧ keyAt v c ≤ 999 := by
      unfold keyAt
      cases q : v.vals[c.toNat]? with
      | none => exact ⟨by decide, by decide⟩
      | some x => exact o.vals x (List.mem_of_getElem? q)
    have := o.row
    have := o.place
    have := ok.far v m
    refine ⟨rfl, fun w hw => ?_⟩
    simp only [List.mem_cons, List.not_mem_nil, or_false] at hw
    rcases hw with rfl | rfl | rfl <;> omega

theorem w_boundsR {h : MH} {Q : DK} {E : DXK} {a : Addr} {o : MO} {sc : List Int} {C : Int} (ha : h a = some o) (F : FdD sc C o) (hs : sc.length ≤ 63) (hC : C ≤ 10 ^ 10) (k : ∀ lo hi o', FdD sc (C + 4) o' → Q (.d (.tuple [optE lo, optE hi])) (mput h a o')) : W__law_bounds [.own a] h Q E := by
  have hsome := fd_some ha
  refine fnW_mk rfl ?_
  unfold t__law_bounds
  show dSeq _ _ _ [some (.own a), none] h
  walk_at "dl"
  refine w_drawD ha F hs (by omega) ⟨by decide, by decide⟩ fun v o1 v0 v1 F1 => ?_
  walk_at "dl"
  refine w_drawD put_same F1 hs (by omega) ⟨by decide, by decide⟩ fun u o2 u0 u1 F2 => ?_
  rw [put_put]
  obtain ⟨d1, e1, m1⟩ := at_get (xs := [PyData.none, .int v, .int (-999), .int 999]) u0 (by simpa using u1)
  obtain ⟨lo, rfl⟩ : ∃ lo, d1 = optE lo := by
    simp only [List.mem_cons, List.not_mem_nil, or_false] at m1
    rcases m1 with rfl | rfl | rfl | rfl
    · exact ⟨none, rfl⟩
    · exact ⟨some _, rfl⟩
    · exact ⟨some _, rfl⟩
    · exact ⟨some _, rfl⟩
  refine r_ixL e1 ?_
  walk_at "dl"
  refine w_drawD put_same F2 hs (by omega) ⟨by decide, by decide⟩ fun v2 o3 _ _ F3 => ?_
  rw [put_put]
  walk_at "dl"
  refine w_drawD put_same F3 hs (by omega) ⟨by decide, by decide⟩ fun w o4 w0 w1 F4 => ?_
  rw [put_put]
  obtain ⟨d2, e2, m2⟩ := at_get (xs := [PyData.none, .int v2, .int 5, .int (-999)]) w0 (by simpa using w1)
  obtain ⟨hi, rfl⟩ : ∃ hi, d2 = optE hi := by
    simp only [List.mem_cons, List.not_mem_nil, or_false] at m2
    rcases m2 with rfl | rfl | rfl | rfl
    · exact ⟨none, rfl⟩
    · exact ⟨some _, rfl⟩
    · exact ⟨some _, rfl⟩
    · exact ⟨some _, rfl⟩
  refine r_ixL e2 ?_
  walk_at "dl"
  rw [restr_putd hsome, restr_self]
  exact k lo hi o4 (F4.up (by omega))

/-! ### k65: whatever is let by is the scan -/
abbrev triV (c : Int) (v : Ver) : List Int := [keyAt v c, v.row, v.place]
abbrev entV (c : Int) (v : Ver) : List Int := [keyAt v c, v.row, v.root]
def seenM (S : Stand) (wr : Int) : List Ver := S.vers.filter (seeB S wr)
theorem lex3 {a b p a' b' p' : Int} : lexL [a, b, p] [a', b', p'] = true ↔ a < a' ∨ a = a' ∧ (b < b' ∨ b = b' ∧ p < p') := by
  simp only [lexL]
  by_cases h1 : a = a'
  · rw [if_pos h1]
    by_cases h2 : b = b'
    · rw [if_pos h2]
      by_cases h3 : p = p'
      · rw [if_pos h3]
        exact ⟨fun z => (by cases z), fun z => by omega⟩
      · rw [if_neg h3, decide_eq_true_eq]; omega
    · rw [if_neg h2, decide_eq_true_eq]; omega
  · rw [if_neg h1, decide_eq_true_eq]; omega
/-- what is asked of a stand and a writer -/
structure OneRow (S : Stand) (wr : Int) : Prop where
  rise : S.vers.Pairwise fun v u => v.place < u.place
  one : ∀ v ∈ seenM S wr, ∀ u ∈ seenM S wr, v.row = u.row → v = u
theorem OneRow.place {S : Stand} {wr : Int} (o : OneRow S wr) {v u : Ver} (hv : v ∈ seenM S wr) (hu : u ∈ seenM S wr) (e : v.place = u.place) : v = u :=
  pair_inj o.rise (List.mem_filter.mp hv).1 (List.mem_filter.mp hu).1 e
def lt2 (k l : List Int) : Prop := k.getD 0 0 < l.getD 0 0 ∨ k.getD 0 0 = l.getD 0 0 ∧ k.getD 1 0 < l.getD 1 0
theorem lt2_lex {k l : List Int} (hk : k.length = 3) (hl : l.length = 3) (h : lt2 k l) : lexL k l = true := by
  obtain ⟨a, b, p, rfl⟩ := three hk
  obtain ⟨a', b', p', rfl⟩ := three hl
  have h' : a < a' ∨ a = a' ∧ b < b' := h
  exact lex3.mpr (by omega)
theorem lt2_of {S : Stand} {wr c : Int} (o : OneRow S wr) {v u : Ver} (hv : v ∈ seenM S wr) (hu : u ∈ seenM S wr) (ne : v ≠ u) {x y : Int} (h : lexL [keyAt v c, v.row, x] [keyAt u c, u.row, y] = true) : lt2 (triV c v) (triV c u) := by
  have hr : v.row ≠ u.row := fun e => ne (o.one v hv u hu e)
  have z := lex3.mp h
  show keyAt v c < keyAt u c ∨ keyAt v c = keyAt u c ∧ v.row < u.row
  omega
/-- what is read by entries -/
def verR (S : Stand) (wr : Int) (k : List Int) : Option Ver := (seenM S wr).find? fun v => decide ([v.row, v.root] = k)
def readF (S : Stand) (wr c : Int) (lo hi : Option Int) (k : List Int) : Option (List Int) := match verR S wr [k.getD 1 0, k.getD 2 0] with
  | some v => if keyAt v c = k.getD 0 0 ∧ inB lo hi (k.getD 0 0) = true then some [k.getD 0 0, k.getD 1 0, v.place] else none
  | none => none
theorem readF_some {S : Stand} {wr c : Int} {lo hi : Option Int} (o : OneRow S wr) {k t : List Int} (hk : k.length = 3) : readF S wr c lo hi k = some t ↔ ∃ v ∈ seenM S wr, inB lo hi (keyAt v c) = true ∧ k = entV c v ∧ t = triV c v := by
  obtain ⟨a, b, p, rfl⟩ := three hk
  unfold readF
  show (match verR S wr [b, p] with | some v => if keyAt v c = a ∧ inB lo hi a = true then some [a, b, v.place] else none | none => none) = some t ↔ _
  constructor
  · intro h
    cases q : verR S wr [b, p] with
    | none => rw [q] at h; cases h
    | some v =>
      rw [q] at h
      dsimp only at h
      by_cases e : keyAt v c = a ∧ inB lo hi a = true
      · rw [if_pos e] at h
        cases h
        have z : [v.row, v.root] = [b, p] := of_decide_eq_true (List.find?_some (p := fun u : Ver => decide ([u.row, u.root] = [b, p])) q)
        injection z with z1 z2
        injection z2 with z2
        refine ⟨v, List.mem_of_find?_eq_some q, by rw [e.1]; exact e.2, ?_, ?_⟩
        · rw [← e.1, ← z1, ← z2]
        · rw [← e.1, ← z1]
      · rw [if_neg e] at h; cases h
  · rintro ⟨v, hv, hb, e, rfl⟩
    injection e with e1 e2
    injection e2 with e2 e3
    injection e3 with e3
    subst e1 e2 e3
    have q : verR S wr [v.row, v.root] = some v := by
      unfold verR
      cases q : (seenM S wr).find? fun u => decide ([u.row, u.root] = [v.row, v.root]) with
      | none => exact absurd (decide_eq_true (rfl : [v.row, v.root] = [v.row, v.root])) (List.find?_eq_none.mp q v hv)
      | some u =>
        have z : [u.row, u.root] = [v.row, v.root] := of_decide_eq_true (List.find?_some (p := fun u : Ver => decide ([u.row, u.root] = [v.row, v.root])) q)
        injection z with z1 z2
        rw [o.one u (List.mem_of_find?_eq_some q) v hv z1]
    rw [q]
    exact if_pos ⟨rfl, hb⟩
def readK (S : Stand) (wr c : Int) (lo hi : Option Int) (ms : List (List Int)) : List (List Int) := ms.filterMap (readF S wr c lo hi)
def keptM (S : Stand) (wr c : Int) (es : List (List Int)) : List Ver := (seenM S wr).filter fun v => decide (entV c v ∈ es)
theorem readK_run {S : Stand} {wr c : Int} {lo hi : Option Int} (o : OneRow S wr) {ms es : List (List Int)} (h3 : ∀ k ∈ es, k.length = 3) (r : RunOf ms es) : RunOf (readK S wr c lo hi ms) (((keptM S wr c es).filter fun v => inB lo hi (keyAt v c)).map (triV c)) := by
  have m3 : ∀ k ∈ ms, k.length = 3 := fun k hk => h3 k ((r.2 k).mp hk)
  refine ⟨?_, fun t => ?_⟩
  · unfold readK
    refine List.pairwise_filterMap.mpr (r.1.imp_of_mem fun {k l} hk hl z t ht u hu => ?_)
    obtain ⟨v, hv, _, rfl, rfl⟩ := (readF_some o (m3 k hk)).mp ht
    obtain ⟨w, hw, _, rfl, rfl⟩ := (readF_some o (m3 l hl)).mp hu
    refine lt2_lex rfl rfl (lt2_of o hv hw (fun e => ?_) z)
    rw [e, lex_irr] at z
    cases z
  · unfold readK
    rw [List.mem_filterMap, List.mem_map]
    constructor
    · rintro ⟨k, hk, e⟩
      obtain ⟨v, hv, hb, rfl, rfl⟩ := (readF_some o (m3 k hk)).mp e
      exact ⟨v, List.mem_filter.mpr ⟨List.mem_filter.mpr ⟨hv, decide_eq_true ((r.2 _).mp hk)⟩, hb⟩, rfl⟩
    · rintro ⟨v, hv, rfl⟩
      obtain ⟨h12, hb⟩ := List.mem_filter.mp hv
      obtain ⟨h1, h2⟩ := List.mem_filter.mp h12
      exact ⟨entV c v, (r.2 _).mpr (of_decide_eq_true h2), (readF_some o rfl).mpr ⟨v, h1, hb, rfl, rfl⟩⟩
/-- is none lacking? -/
def lackK (S : Stand) (wr c : Int) (es : List (List Int)) : Option Ver := S.vers.find? fun v => seeB S wr v && !decide (entV c v ∈ es)
theorem e_setQ {D : DEnds} {σ : DSt} {h : MH} {te to ti : DTE} (k : te σ h fun y h1 => to σ h1 fun x h2 => ti σ h2 fun i h3 => setQK D σ y x i h3) : dSetQ te to ti D σ h := k
def getQB (x : SV) (Q : DK) : DK := fun y h2 => match asQd h2 x, tupI y with
  | some p, some k => Q (.d ((lookQ p.2 k).getD .none)) h2
  | _, _ => False
def getQA (ti : DTE) (σ : DSt) (Q : DK) : DK := fun x h1 => match asQd h1 x with
  | some _ => ti σ h1 (getQB x Q)
  | none => False
theorem e_getQA {σ : DSt} {h : MH} {Q : DK} {to ti : DTE} (k : to σ h (getQA ti σ Q)) : dGetQ to ti σ h Q := k
theorem k_getQA {σ : DSt} {h : MH} {Q : DK} {ti : DTE} {a : Addr} {ps : List (List Int × PyData)} (e : h a = some (.dcT a ps)) (k : ti σ h (getQB (.own a) Q)) : getQA ti σ Q (.own a) h := by
  unfold getQA
  rw [asQd_own e]
  exact k
theorem k_getQB {h : MH} {Q : DK} {y : SV} {a : Addr} {ps : List (List Int × PyData)} {ks : List Int} (e : h a = some (.dcT a ps)) (e2 : tupI y = some ks) (k : Q (.d ((lookQ ps ks).getD .none)) h) : getQB (.own a) Q y h := by
  unfold getQB
  rw [asQd_own e, e2]
  exact k

local macro_rules | `(tactic| walk_at "dl1") => `(tactic| first
  | with_reducible refine e_sst ?_
  | with_reducible refine e_sortSetU ?_
  | with_reducible refine e_dcQ ?_
  | with_reducible refine e_setQ ?_
  | with_reducible refine e_getQA ?_)

/-! ### k65: what the defs tell -/
theorem lookQ_set {L : List (List Int × PyData)} {k k' : List Int} {d : PyData} : lookQ (setQd L k d) k' = if k' = k then some d else lookQ L k' := by
  unfold setQd
  by_cases q : (lookQ L k).isSome = true
  · rw [if_pos q]
    unfold lookQ at q ⊢
    by_cases e : k' = k
    · subst e
      rw [if_pos rfl]
      induction L with
      | nil => cases q
      | cons p L ih =>
        rw [List.map_cons, List.find?_cons]
        by_cases e : p.1 = k'
        · rw [if_pos e, decide_eq_true e]; rfl
        · rw [if_neg e, decide_eq_false e]
          rw [List.find?_cons, decide_eq_false e] at q
          exact ih q
    · rw [if_neg e]
      clear q
      induction L with
      | nil => rfl
      | cons p L ih =>
        rw [List.map_cons, List.find?_cons, List.find?_cons]
        by_cases e2 : p.1 = k
        · rw [if_pos e2, decide_eq_false (fun z : p.1 = k' => e (z.symm.trans e2))]
          exact ih
        · rw [if_neg e2]
          by_cases e3 : p.1 = k'
          · rw [decide_eq_true e3]
          · rw [decide_eq_false e3]; exact ih
  · rw [if_neg q]
    have q2 : lookQ L k = none := by
      cases z : lookQ L k with
      | none => rfl
      | some _ => rw [z] at q; exact absurd rfl q
    unfold lookQ at q2 ⊢
    rw [List.find?_append]
    by_cases e : k' = k
    · subst e
      rw [if_pos rfl]
      have q3 := Option.map_eq_none_iff.mp q2
      rw [q3, Option.none_or, List.find?_cons, decide_eq_true rfl]
      rfl
    · rw [if_neg e]
      have z : List.find? (fun x : List Int × PyData => decide (x.1 = k')) [(k, d)] = none := by
        rw [List.find?_cons, decide_eq_false (fun w : k = k' => e w.symm)]
        rfl
      rw [z, Option.or_none]
theorem setQ_len {L : List (List Int × PyData)} {k : List Int} {d : PyData} : (setQd L k d).length ≤ L.length + 1 := by
  unfold setQd
  split
  · rw [List.length_map]; omega
  · rw [List.length_append]; exact Nat.le_refl _
theorem allQd_has (k : List Int) : ∀ (ks : List (List Int)) (L : List (List Int × PyData)), (lookQ (ks.foldl (fun L k => setQd L k (.bool true)) L) k).isSome = ((lookQ L k).isSome || decide (k ∈ ks))
  | [], L => by simp
  | x :: ks, L => by
    rw [List.foldl_cons, allQd_has k ks, lookQ_set]
    by_cases e : k = x
    · rw [if_pos e]
      simp [e]
    · rw [if_neg e]
      simp [e]
def placeO : Option Ver → PyData
  | some v => .int v.place
  | none => .none
def byD (M : List Ver) : List (List Int × PyData) := M.foldl (fun L v => setQd L [v.row, v.root] v.enc) []
theorem byD_snoc {M : List Ver} {v : Ver} : byD (M ++ [v]) = setQd (byD M) [v.row, v.root] v.enc := by
  unfold byD
  rw [List.foldl_append]
  rfl
theorem byD_len (M : List Ver) : (byD M).length ≤ M.length := by
  have go : ∀ (M : List Ver) (L : List (List Int × PyData)), (M.foldl (fun L v => setQd L [v.row, v.root] v.enc) L).length ≤ L.length + M.length := by
    intro M
    induction M with
    | nil => exact fun L => Nat.le_refl _
    | cons v M ih =>
      intro L
      have h1 := ih (setQd L [v.row, v.root] v.enc)
      have h2 : (setQd L [v.row, v.root] v.enc).length ≤ L.length + 1 := setQ_len
      rw [List.foldl_cons, List.length_cons]
      omega
  have z := go M []
  rw [List.length_nil, Nat.zero_add] at z
  exact z
theorem byD_look (k : List Int) : ∀ (M : List Ver) (L : List (List Int × PyData)), M.Pairwise (fun v u => v.row ≠ u.row) → lookQ (M.foldl (fun L v => setQd L [v.row, v.root] v.enc) L) k = ((M.find? fun v => decide ([v.row, v.root] = k)).map Ver.enc).or (lookQ L k)
  | [], L, _ => rfl
  | v :: M, L, h => by
    obtain ⟨h1, h2⟩ := List.pairwise_cons.mp h
    rw [List.foldl_cons, byD_look k M _ h2, lookQ_set, List.find?_cons]
    by_cases e : [v.row, v.root] = k
    · rw [decide_eq_true e, if_pos e.symm]
      have z : (M.find? fun u => decide ([u.row, u.root] = k)) = none := List.find?_eq_none.mpr fun u hu q => by
        have q2 : [u.row, u.root] = [v.row, v.root] := (of_decide_eq_true q).trans e.symm
        injection q2 with q3 _
        exact h1 u hu q3.symm
      rw [z]
      rfl
    · rw [decide_eq_false e, if_neg (fun w => e w.symm)]
theorem OneRow.rows {S : Stand} {wr : Int} (o : OneRow S wr) : (seenM S wr).Pairwise fun v u => v.row ≠ u.row := by
  have nd : (seenM S wr).Pairwise fun v u => v.place < u.place := o.rise.filter _
  exact nd.imp_of_mem fun {v u} hv hu z e => by rw [o.one v hv u hu e] at z; omega
theorem byD_ver {S : Stand} {wr : Int} (o : OneRow S wr) (k : List Int) : lookQ (byD (seenM S wr)) k = (verR S wr k).map Ver.enc := by
  unfold byD
  rw [byD_look k _ [] o.rows]
  exact Option.or_none
section
variable {h : MH} {Q : DK} {E : DXK} {S : Stand} {wr c : Int} {lo hi : Option Int} {σ : DSt} {v : Ver}
theorem w_entry_of (h0 : 0 ≤ c) (h1 : c < v.vals.length) (k : Q (.d (tupN (entV c v))) h) : W_entry_of [.d v.enc, .d (.int c)] h Q E := by
  refine fnW_mk rfl ?_
  unfold t_entry_of
  show dRet _ _ [some (.d v.enc), some (.d (.int c))] h
  walk_at "dl"
  refine r_ixT (key_at h0 h1) ?_
  walk_at "dl"
  rw [restr_self]
  exact k
theorem w_law_entry (h0 : 0 ≤ c) (h1 : c < v.vals.length) (k : Q (.d (tupN (entV c v))) h) : W__law_entry [.d v.enc, .d (.int c)] h Q E := by
  refine fnW_mk rfl ?_
  unfold t__law_entry
  show dRet _ _ [some (.d v.enc), some (.d (.int c))] h
  walk_at "dl"
  refine r_ixT (key_at h0 h1) ?_
  walk_at "dl"
  rw [restr_self]
  exact k
theorem w_lacking {es : List (List Int)} (hl : es.length ≤ 1000) (hvl : S.views.length = S.fates.length) (hw : inR S.fates.length wr = true) (hv : ∀ v ∈ S.vers, InV S.fates v) (hc : 0 ≤ c) (hcv : ∀ v ∈ S.vers, c < v.vals.length)
    (k : Q (.d (placeO (lackK S wr c es))) h) : W_lacking_of [.d S.enc, .d (.int wr), .d (.int c), .d (.tuple (es.map tupN))] h Q E := by
  refine fnW_mk rfl ?_
  unfold t_lacking_of
  show dSeq _ _ _ [some (.d S.enc), some (.d (.int wr)), some (.d (.int c)), some (.d (.tuple (es.map tupN))), none, none, none] h
  walk_at "dl"
  refine k_dcQ rfl (by omega) fun p hp => ?_
  walk_at "dl"
  have hk : ∀ x : List Int, (lookQ (allQd es) x).isSome = decide (x ∈ es) := fun x => allQd_has x es []
  generalize allQd es = QD at hk
  refine for_inv (fun r σ h' => ∃ (l2 : List Ver) (x5 : Option SV), r = l2.map Ver.enc ∧ (∀ v ∈ l2, v ∈ S.vers) ∧ lackK S wr c es = l2.find? (fun v => seeB S wr v && !decide (entV c v ∈ es)) ∧ h' = mput h p (.dcT p QD) ∧
    σ = [some (.d S.enc), some (.d (.int wr)), some (.d (.int c)), some (.d (.tuple (es.map tupN))), some (.own p), x5, none]) ?_ ?_ _ _ _ ⟨S.vers, _, rfl, fun v z => z, rfl, rfl, rfl⟩
  · rintro d r σ h' K ⟨l2, x5, er2, hl2, ef, rfl, rfl⟩ hK
    obtain ⟨v, l2', rfl, rfl, rfl⟩ := map_cons_inv er2
    have hm := hl2 v List.mem_cons_self
    rw [List.find?_cons] at ef
    have next : (seeB S wr v && !decide (entV c v ∈ es)) = false → K [some (.d S.enc), some (.d (.int wr)), some (.d (.int c)), some (.d (.tuple (es.map tupN))), some (.own p), some (.d v.enc), none] (mput h p (.dcT p QD)) := fun e => by
      rw [e] at ef
      exact hK _ _ ⟨l2', _, rfl, fun u z => hl2 u (List.mem_cons_of_mem _ z), ef, rfl, rfl⟩
    refine ⟨_, rfl, ?_⟩
    walk_at "dl"
    refine w_sees hvl (hv v hm) (fun _ => ?_) fun q' => by rw [hw] at q'; cases q'
    walk_at "dl"
    refine k_and (fun q2 => ?_) fun q2 => ?_
    case' refine_2 =>
      refine k_ifF ?_
      walk_at "dl"
      exact next (by unfold seeB; rw [q2]; rfl)
    have q2' : seeB S wr v = true := q2
    walk_at "dl"
    refine w_entry_of hc (hcv v hm) ?_
    walk_at "dl"
    refine r_notInQ put_same (k := entV c v) rfl ?_
    rw [hk]
    walk_at "dl"
    refine k_if (fun q3 => ?_) fun q3 => ?_
    · have e : (seeB S wr v && !decide (entV c v ∈ es)) = true := by rw [q2', q3]; rfl
      rw [e] at ef
      dsimp only at ef
      rw [ef] at k
      walk_at "dl"
      rw [restr_drop hp, restr_self]
      exact k
    · walk_at "dl"
      exact next (by rw [q3, Bool.and_false])
  · rintro σ h' ⟨l2, x5, er2, hl2, ef, rfl, rfl⟩
    have e0 : l2 = [] := by
      cases l2 with
      | nil => rfl
      | cons _ _ => cases er2
    subst e0
    have ef2 : lackK S wr c es = none := ef
    rw [ef2] at k
    walk_at "dl"
    rw [restr_drop hp, restr_self]
    exact k
theorem w_read {es : List (List Int)} (o : OneRow S wr) (h3 : ∀ k ∈ es, k.length = 3) (hl : es.length < 64) (hv40 : S.vers.length ≤ 40) (hvl : S.views.length = S.fates.length) (hw : inR S.fates.length wr = true) (hv : ∀ v ∈ S.vers, InV S.fates v) (hc : 0 ≤ c) (hcv : ∀ v ∈ S.vers, c < v.vals.length)
    (k : ∀ ms, RunOf ms es → Q (.d (.tuple ((readK S wr c lo hi ms).map tupN))) h) : W_read_entries [.d S.enc, .d (.int wr), .d (.int c), .d (.tuple (es.map tupN)), .d (optE lo), .d (optE hi)] h Q E := by
  refine fnW_mk rfl ?_
  unfold t_read_entries
  show dSeq _ _ _ [some (.d S.enc), some (.d (.int wr)), some (.d (.int c)), some (.d (.tuple (es.map tupN))), some (.d (optE lo)), some (.d (optE hi)), none, none, none, none, none, none] h
  walk_at "dl"
  intro p hp
  walk_at "dl"
  refine for_inv (fun r σ h' => ∃ (l1 l2 : List Ver) (x7 : Option SV), S.vers = l1 ++ l2 ∧ r = l2.map Ver.enc ∧ h' = mput h p (.dcT p (byD (l1.filter (seeB S wr)))) ∧
    σ = [some (.d S.enc), some (.d (.int wr)), some (.d (.int c)), some (.d (.tuple (es.map tupN))), some (.d (optE lo)), some (.d (optE hi)), some (.own p), x7, none, none, none, none]) ?_ ?_ _ _ _ ⟨[], S.vers, _, rfl, rfl, rfl, rfl⟩
  · rintro d r σ h' K ⟨l1, l2, x7, el, er2, rfl, rfl⟩ hK
    obtain ⟨v, l2', rfl, rfl, rfl⟩ := map_cons_inv er2
    have hm : v ∈ S.vers := by rw [el]; simp
    have hl1 : (byD (l1.filter (seeB S wr))).length < 1000000 := by
      have z1 := byD_len (l1.filter (seeB S wr))
      have z2 := List.length_filter_le (seeB S wr) l1
      rw [el, List.length_append] at hv40
      omega
    refine ⟨_, rfl, ?_⟩
    walk_at "dl"
    refine w_sees hvl (hv v hm) (fun _ => ?_) fun q' => by rw [hw] at q'; cases q'
    walk_at "dl"
    refine k_if (fun q2 => ?_) fun q2 => ?_
    · have q2' : seeB S wr v = true := q2
      walk_at "dl"
      refine k_setQ put_same (k := [v.row, v.root]) rfl hl1 ?_
      rw [put_put]
      refine hK _ _ ⟨l1 ++ [v], l2', _, by rw [el]; simp, rfl, ?_, rfl⟩
      rw [List.filter_append, List.filter_cons, if_pos q2', List.filter_nil, byD_snoc]
    · have q2' : ¬ seeB S wr v = true := fun z => by unfold seeB at z; rw [q2] at z; cases z
      walk_at "dl"
      refine hK _ _ ⟨l1 ++ [v], l2', _, by rw [el]; simp, rfl, ?_, rfl⟩
      rw [List.filter_append, List.filter_cons, if_neg q2', List.filter_nil, List.append_nil]
  rintro σ h' ⟨l1, l2, x7, el, er2, rfl, rfl⟩
  have e0 : l2 = [] := by
    cases l2 with
    | nil => rfl
    | cons _ _ => cases er2
  subst e0
  rw [List.append_nil] at el
  subst el
  have look := byD_ver o
  change ∀ k, lookQ (byD (S.vers.filter (seeB S wr))) k = _ at look
  generalize byD (S.vers.filter (seeB S wr)) = QD at look
  walk_at "dl"
  intro p2 hp2
  have hpp : p2 ≠ p := fun e => by rw [e, put_same] at hp2; cases hp2
  walk_at "dl"
  refine k_sortSetU (m := 3) rfl hl (by decide) h3 fun ms pw mem => ?_
  have ru : RunOf ms es := ⟨pw, mem⟩
  have hml : ms.length ≤ es.length := nodup_len _ _ ru.nodup fun k hk => (mem k).mp hk
  refine for_inv (fun r σ h' => ∃ (l1 l2 : List (List Int)) (y7 y9 y10 y11 : Option SV), ms = l1 ++ l2 ∧ r = l2.map tupN ∧ h' = mput (mput h p (.dcT p QD)) p2 (.lst ((readK S wr c lo hi l1).map tupN)) ∧
    σ = [some (.d S.enc), some (.d (.int wr)), some (.d (.int c)), some (.d (.tuple (es.map tupN))), some (.d (optE lo)), some (.d (optE hi)), some (.own p), y7, some (.own p2), y9, y10, y11]) ?_ ?_ _ _ _ ⟨[], ms, _, _, _, _, rfl, rfl, rfl, rfl⟩
  · rintro d r σ h' K ⟨l1, l2, y7, y9, y10, y11, el, er2, rfl, rfl⟩ hK
    obtain ⟨kk, l2', rfl, rfl, rfl⟩ := map_cons_inv er2
    have hk3 : kk.length = 3 := h3 kk ((mem kk).mp (by rw [el]; simp))
    obtain ⟨a, b, t, rfl⟩ := three hk3
    have hr1 : (readK S wr c lo hi l1).length ≤ 64 := by
      have z := List.length_filterMap_le (readF S wr c lo hi) l1
      rw [el, List.length_append] at hml
      unfold readK
      omega
    have hat : ∀ L : List PyData, mput (mput h p (.dcT p QD)) p2 (.lst L) p = some (.dcT p QD) := fun L => (put_other (Ne.symm hpp)).trans put_same
    have ef : readF S wr c lo hi [a, b, t] = match verR S wr [b, t] with | some v => if keyAt v c = a ∧ inB lo hi a = true then some [a, b, v.place] else none | none => none := rfl
    have no : readF S wr c lo hi [a, b, t] = none → readK S wr c lo hi (l1 ++ [[a, b, t]]) = readK S wr c lo hi l1 := fun e => by
      unfold readK
      rw [List.filterMap_append, List.filterMap_cons, e, List.filterMap_nil, List.append_nil]
    have yes : ∀ x, readF S wr c lo hi [a, b, t] = some x → readK S wr c lo hi (l1 ++ [[a, b, t]]) = readK S wr c lo hi l1 ++ [x] := fun x e => by
      unfold readK
      rw [List.filterMap_append, List.filterMap_cons, e, List.filterMap_nil]
    have el2 : ms = (l1 ++ [[a, b, t]]) ++ l2' := by rw [el]; simp
    refine ⟨_, bind3, ?_⟩
    walk_at "dl"
    refine k_getQA (hat _) ?_
    walk_at "dl"
    refine k_getQB (hat _) (ks := [b, t]) rfl ?_
    rw [look]
    cases q : verR S wr [b, t] with
    | none =>
      rw [q] at ef
      dsimp only [Option.map_none, Option.getD_none]
      walk_at "dl"
      refine k_and (fun z => by cases z) fun _ => ?_
      refine k_ifF ?_
      walk_at "dl"
      exact hK _ _ ⟨_, l2', _, _, _, _, el2, rfl, by rw [no ef], rfl⟩
    | some v =>
      rw [q] at ef
      dsimp only [Option.map_some, Option.getD_some]
      dsimp only at ef
      have hm : v ∈ S.vers := (List.mem_filter.mp (List.mem_of_find?_eq_some q)).1
      walk_at "dl"
      refine k_and (fun _ => ?_) fun z => by cases z
      walk_at "dl"
      refine r_ixT (key_at hc (hcv v hm)) ?_
      walk_at "dl"
      refine k_and (fun q1 => ?_) fun q1 => ?_
      case' refine_2 =>
        have n1 : ¬ keyAt v c = a := of_decide_eq_false q1
        rw [if_neg (fun z => n1 z.1)] at ef
        refine k_ifF ?_
        walk_at "dl"
        exact hK _ _ ⟨_, l2', _, _, _, _, el2, rfl, by rw [no ef], rfl⟩
      have q1' : keyAt v c = a := of_decide_eq_true q1
      walk_at "dl"
      refine w_between ?_
      walk_at "dl"
      refine k_if (fun q4 => ?_) fun q4 => ?_
      · rw [if_pos ⟨q1', q4⟩] at ef
        walk_at "dl"
        refine m_append put_same (by rw [List.length_map]; omega) ?_
        rw [put_put]
        refine hK _ _ ⟨_, l2', _, _, _, _, el2, rfl, ?_, rfl⟩
        rw [yes _ ef, List.map_append]
        rfl
      · rw [if_neg (fun z => by rw [q4] at z; cases z.2)] at ef
        walk_at "dl"
        exact hK _ _ ⟨_, l2', _, _, _, _, el2, rfl, by rw [no ef], rfl⟩
  · rintro σ h' ⟨l1, l2, y7, y9, y10, y11, el, er2, rfl, rfl⟩
    have e0 : l2 = [] := by
      cases l2 with
      | nil => rfl
      | cons _ _ => cases er2
    subst e0
    rw [List.append_nil] at el
    subst el
    have hp2' : h p2 = none := by rw [put_other hpp] at hp2; exact hp2
    walk_at "dl"
    refine b_tuple (asQ_own put_same) ?_
    walk_at "dl"
    rw [restr_drop hp2', restr_drop hp, restr_self]
    exact k _ ru
end

/-! ### k65: entries drawn, papers judged -/
theorem m_insert {h : MH} {Q : DK} {a : Addr} {ds : List PyData} {j : Int} {y : PyData} (e : h a = some (.lst ds)) (c : ds.length < 16777216) (hj : 0 ≤ j ∧ j < 2 ^ 63) (k : Q (.d .none) (mput h a (.lst (ds.take j.toNat ++ [y] ++ ds.drop j.toNat)))) : rdInsert (.own a) [.d (.int j), .d y] h Q := by
  unfold rdInsert asInt
  simp only [ownL_own e]
  exact ⟨by rw [sizeLine_eq]; exact c, hj.1, hj.2, k⟩
theorem r_slO {h : MH} {Q : DK} {a : Addr} {ds : List PyData} {lo hi : Option Int} (e : h a = some (.lst ds)) (k : Q (.d (.list (cutD ds lo hi))) h) : rdSl (.own a) lo hi h Q := by
  have e2 : asL h (.own a) = some ds := asL_own e
  show match asL h (.own a) with
    | some xs => Q (.d (.list (cutD xs lo hi))) h
    | none => False
  rw [e2]
  exact k
section
variable {h : MH} {Q : DK} {E : DXK} {S : Stand} {wr c : Int} {lo hi : Option Int} {σ : DSt} {v : Ver}
theorem w_law_all (hl : S.vers.length ≤ 40) (h0 : 0 ≤ c) (h1 : ∀ v ∈ S.vers, c < v.vals.length) (k : Q (.d (.list ((S.vers.map (entV c)).map tupN))) h) : W__law_all [.d S.enc, .d (.int c)] h Q E := by
  refine fnW_mk rfl ?_
  unfold t__law_all
  show dRet _ _ [some (.d S.enc), some (.d (.int c)), none] h
  walk_at "dl"
  refine ⟨by rw [sizeLine_eq, List.length_map]; omega, ?_⟩
  refine lc_enc (enc := Ver.enc) (out := fun v => tupN (entV c v)) (fun _ => true) (fun v hv => ⟨_, rfl, fun K hK => ?_, fun _ K hK => ?_⟩) ?_
  · walk_at "dl"
    exact hK
  · walk_at "dl"
    refine w_law_entry h0 (h1 v hv) ?_
    walk_at "dl"
    exact hK
  rw [List.filter_eq_self.mpr fun _ _ => rfl]
  have e : (S.vers.map fun v => tupN (entV c v)) = (S.vers.map (entV c)).map tupN := by rw [List.map_map]; rfl
  rw [e]
  walk_at "dl"
  rw [restr_self]
  exact k
theorem w_some_entries {a : Addr} {o : MO} {sc : List Int} {C : Int} (ha : h a = some o) (F : FdD sc C o) (hs : sc.length ≤ 63) (hC : C ≤ 10 ^ 10) (hl : S.vers.length ≤ 40) (h0 : 0 ≤ c) (h1 : ∀ v ∈ S.vers, c < v.vals.length)
    (k : ∀ (es : List (List Int)) o', es.length ≤ 45 → (∀ k ∈ es, k.length = 3) → FdD sc (C + 100) o' → Q (.d (.tuple (es.map tupN))) (mput h a o')) : W__law_some_entries [.own a, .d S.enc, .d (.int c)] h Q E := by
  have hsome := fd_some ha
  refine fnW_mk rfl ?_
  unfold t__law_some_entries
  show dSeq _ _ _ [some (.own a), some (.d S.enc), some (.d (.int c)), none, none, none, none] h
  walk_at "dl"
  refine w_law_all hl h0 h1 ?_
  walk_at "dl"
  intro p hp
  have hpa : p ≠ a := fun e => by rw [e, ha] at hp; cases hp
  walk_at "dl"
  obtain ⟨EL, hEL, hEl, hE3⟩ : ∃ EL : List (List Int), S.vers.map (entV c) = EL ∧ EL.length ≤ 40 ∧ ∀ k ∈ EL, k.length = 3 := ⟨_, rfl, by rw [List.length_map]; exact hl, fun k hk => by obtain ⟨v, _, rfl⟩ := List.mem_map.mp hk; rfl⟩
  rw [hEL]
  have hat : ∀ (oo : MO) (L : List PyData), mput (mput h a oo) p (.lst L) a = some oo := fun oo L => (put_other (Ne.symm hpa)).trans put_same
  refine for_inv (fun r σ h' => ∃ (l2 FL : List (List Int)) (o' : MO) (x3 : Option SV), r = l2.map tupN ∧ (∀ k ∈ l2, k.length = 3) ∧ (∀ k ∈ FL, k.length = 3) ∧ FL.length + l2.length ≤ 40 ∧ h' = mput (mput h a o') p (.lst (FL.map tupN)) ∧ FdD sc (C + 80 - 2 * l2.length) o' ∧
    σ = [some (.own a), some (.d S.enc), some (.d (.int c)), x3, none, some (.d (.list (EL.map tupN))), some (.own p)]) ?_ ?_ _ _ _ ⟨EL, [], o, _, rfl, hE3, fun k hk => (by cases hk), by simpa using hEl, by rw [put_id ha]; rfl, F.up (by omega), rfl⟩
  · rintro d r σ h' K ⟨l2, FL, o', x3, er, h2, hF, hlen, rfl, F', rfl⟩ hK
    obtain ⟨kk, l2', rfl, rfl, rfl⟩ := map_cons_inv er
    rw [List.length_cons] at hlen F'
    have h2' : ∀ k ∈ l2', k.length = 3 := fun k hk => h2 k (List.mem_cons_of_mem _ hk)
    refine ⟨_, rfl, ?_⟩
    walk_at "dl"
    refine w_drawD (hat _ _) F' hs (by push_cast; omega) ⟨by decide, by decide⟩ fun u o1 u0 u1 F1 => ?_
    rw [put_swap hpa, put_put]
    walk_at "dl"
    refine k_if (fun q => ?_) fun q => ?_
    case' refine_2 =>
      walk_at "dl"
      exact hK _ _ ⟨l2', FL, o1, _, rfl, h2', hF, by omega, rfl, F1.up (by push_cast; omega), rfl⟩
    walk_at "dl"
    rw [List.length_map]
    refine w_drawD (hat _ _) F1 hs (by push_cast; omega) ⟨by omega, by omega⟩ fun j o2 j0 j1 F2 => ?_
    rw [put_swap hpa, put_put]
    walk_at "dl"
    refine m_insert put_same (by rw [List.length_map]; omega) ⟨j0, by omega⟩ ?_
    rw [put_put]
    refine hK _ _ ⟨l2', FL.take j.toNat ++ [kk] ++ FL.drop j.toNat, o2, _, rfl, h2', fun k hk => ?_, ?_, ?_, F2.up (by push_cast; omega), rfl⟩
    · rcases List.mem_append.mp hk with z | z
      · rcases List.mem_append.mp z with z | z
        · exact hF k (List.mem_of_mem_take z)
        · rw [List.mem_singleton.mp z]; exact h2 kk List.mem_cons_self
      · exact hF k (List.mem_of_mem_drop z)
    · simp only [List.length_append, List.length_take, List.length_drop, List.length_singleton]
      omega
    · rw [List.map_append, List.map_append, List.map_take, List.map_drop]
      rfl
  rintro σ h' ⟨l2, FL, o', x3, er, h2, hF, hlen, rfl, F', rfl⟩
  have hFl : FL.length ≤ 40 := by omega
  have F0 : FdD sc (C + 80) o' := F'.up (by omega)
  walk_at "dl"
  refine w_drawD (hat _ _) F0 hs (by omega) ⟨by decide, by decide⟩ fun u o1 u0 u1 F1 => ?_
  rw [put_swap hpa, put_put]
  refine k_wRg1 ⟨by omega, by omega⟩ ?_
  obtain ⟨n, rfl⟩ : ∃ n : Nat, u = n := ⟨u.toNat, by omega⟩
  rw [rg0]
  refine for_inv (fun r σ h' => ∃ (FL : List (List Int)) (o' : MO) (x3 x4 : Option SV), (∀ k ∈ FL, k.length = 3) ∧ FL.length + r.length ≤ 43 ∧ r.length ≤ 3 ∧ h' = mput (mput h a o') p (.lst (FL.map tupN)) ∧ FdD sc (C + 81 + 3 * (3 - r.length)) o' ∧
    σ = [some (.own a), some (.d S.enc), some (.d (.int c)), x3, x4, some (.d (.list (EL.map tupN))), some (.own p)]) ?_ ?_ _ _ _ ⟨FL, o1, _, _, hF, by rw [List.length_map, rgI_len]; omega, by rw [List.length_map, rgI_len]; omega, rfl, F1.up (by rw [List.length_map, rgI_len]; omega), rfl⟩
  · rintro d r σ h' K ⟨FL, o', x3, x4, hF, hlen, hr3, rfl, F', rfl⟩ hK
    rw [List.length_cons] at hlen hr3 F'
    refine ⟨_, rfl, ?_⟩
    walk_at "dl"
    refine w_drawD (hat _ _) F' hs (by push_cast; omega) ⟨by decide, by decide⟩ fun v1 o2 _ _ F2 => ?_
    rw [put_swap hpa, put_put]
    walk_at "dl"
    refine w_drawD (hat _ _) F2 hs (by push_cast; omega) ⟨by decide, by decide⟩ fun v2 o3 _ _ F3 => ?_
    rw [put_swap hpa, put_put]
    walk_at "dl"
    refine w_drawD (hat _ _) F3 hs (by push_cast; omega) ⟨by decide, by decide⟩ fun v3 o4 _ _ F4 => ?_
    rw [put_swap hpa, put_put]
    walk_at "dl"
    refine m_append put_same (by rw [List.length_map]; omega) ?_
    rw [put_put]
    refine hK _ _ ⟨FL ++ [[v1, v2, v3]], o4, _, _, fun k hk => ?_, by simp; omega, by omega, ?_, F4.up (by push_cast; omega), rfl⟩
    · rcases List.mem_append.mp hk with z | z
      · exact hF k z
      · rw [List.mem_singleton.mp z]; rfl
    · rw [List.map_append]
      rfl
  rintro σ h' ⟨FL, o2, x3, x4, hF, hlen, _, rfl, F2, rfl⟩
  have F3 : FdD sc (C + 90) o2 := F2.up (by simp; omega)
  have hlen2 : FL.length ≤ 43 := by simpa using hlen
  walk_at "dl"
  refine w_drawD (hat _ _) F3 hs (by omega) ⟨by decide, by decide⟩ fun u o3 u0 u1 F4 => ?_
  rw [put_swap hpa, put_put]
  walk_at "dl"
  refine r_slO put_same ?_
  walk_at "dl"
  have ecut : cutD (FL.map tupN) none (some u) = (FL.take u.toNat).map tupN := by
    obtain ⟨n, rfl⟩ : ∃ n : Nat, u = n := ⟨u.toNat, by omega⟩
    unfold cutD
    rw [HT.sIx_none, HT.sIx_nat, List.drop_zero, Nat.sub_zero, List.length_map, Int.toNat_natCast]
    by_cases e : n ≤ FL.length
    · rw [Nat.min_eq_left e, List.map_take]
    · rw [Nat.min_eq_right (by omega), List.take_of_length_le (by rw [List.length_map]; exact Nat.le_refl _), List.take_of_length_le (show FL.length ≤ n by omega)]
  rw [ecut]
  refine r_addOL put_same (by rw [List.length_map, List.length_map, List.length_take]; omega) ?_
  walk_at "dl"
  rw [restr_drop hp, restr_putd hsome, restr_self, ← List.map_append]
  refine k (FL ++ FL.take u.toNat) o3 (by rw [List.length_append, List.length_take]; omega) (fun k hk => ?_) (F4.up (by omega))
  rcases List.mem_append.mp hk with z | z
  · exact hF k z
  · exact hF k (List.mem_of_mem_take z)
end

local macro_rules | `(tactic| walk_at "dl1") => `(tactic| first
  | with_reducible refine e_sst ?_
  | with_reducible refine e_sortSetU ?_
  | with_reducible refine e_dcQ ?_
  | with_reducible refine e_setQ ?_
  | with_reducible refine e_getQA ?_)
local macro_rules | `(tactic| walk_at "dl1") => `(tactic| first
  | with_reducible refine e_asgN ?_)

/-! ### k62: the law -/
theorem eqvA_ints : ∀ k l : List Int, PyData.eqvAll (k.map PyData.int) (l.map PyData.int) = decide (k = l)
  | [], [] => by simp [PyData.eqvAll]
  | [], _ :: _ => by simp [PyData.eqvAll]
  | _ :: _, [] => by simp [PyData.eqvAll]
  | x :: k, y :: l => by
    have ih := eqvA_ints k l
    rw [List.map_cons, List.map_cons]
    simp only [PyData.eqvAll, eqv_int, ih]
    by_cases h1 : x = y <;> by_cases h2 : k = l <;> simp [h1, h2]
theorem eqv_tupN (k l : List Int) : PyData.eqv (tupN k) (tupN l) = decide (k = l) := by
  unfold tupN
  simp only [PyData.eqv]
  exact eqvA_ints k l
theorem any_tups {es : List (List Int)} {k : List Int} : ((es.map tupN).any fun z => PyData.eqv z (tupN k)) = decide (k ∈ es) := by
  rw [List.any_map]
  by_cases h : k ∈ es
  · rw [decide_eq_true h]
    exact List.any_eq_true.mpr ⟨k, h, by show PyData.eqv (tupN k) (tupN k) = true; rw [eqv_tupN, decide_eq_true rfl]⟩
  · rw [decide_eq_false h]
    refine List.any_eq_false.mpr fun l hl z => ?_
    have z' : PyData.eqv (tupN l) (tupN k) = true := z
    rw [eqv_tupN] at z'
    exact h (of_decide_eq_true z' ▸ hl)
theorem plainA_ints : ∀ k : List Int, PyData.plainAll (k.map PyData.int) = true
  | [] => by simp [PyData.plainAll]
  | x :: k => by
    have ih := plainA_ints k
    rw [List.map_cons]
    simp [PyData.plainAll, PyData.plain, ih]
theorem plain_tupN (k : List Int) : (tupN k).plain = true := by
  unfold tupN
  simp only [PyData.plain]
  exact plainA_ints k
theorem plain_tups : ∀ ks : List (List Int), PyData.plainAll (ks.map tupN) = true
  | [] => by simp [PyData.plainAll]
  | x :: k => by
    have ih := plain_tups k
    rw [List.map_cons]
    simp [PyData.plainAll, plain_tupN, ih]
theorem dep_tupN (k : List Int) : (tupN k).depth ≤ 60 := Nat.le_trans (dOk_ok 1 (tupN k) (by
  show (k.map PyData.int).all (dOk 0) = true
  rw [List.all_map]
  exact List.all_eq_true.mpr fun x _ => rfl)).2 (by decide)
theorem scan_run {S : Stand} {wr c : Int} (o : OneRow S wr) {L : List Ver} (hL : ∀ v ∈ L, v ∈ seenM S wr) (hn : L.Nodup) : RunOf ((scanS c L).map (triV c)) (L.map (triV c)) := by
  refine ⟨List.pairwise_map.mpr ?_, fun k => ?_⟩
  · have nd : (scanS c L).Nodup := (scanS_perm c L).nodup_iff.mpr hn
    have pw : (scanS c L).Pairwise fun v u => leD 3 (tripS c v) (tripS c u) = true :=
      List.pairwise_mergeSort (le := fun v u => leD 3 (tripS c v) (tripS c u)) (fun x y z => leD_trans (tripS c x) (tripS c y) (tripS c z)) (fun x y => leD_total (tripS c x) (tripS c y)) _
    refine (pw.and nd).imp_of_mem fun {v u} hv hu ⟨z, ne⟩ => ?_
    have z3 : (!lexL (triV c u) (triV c v)) = true := z
    have z2 : lexL (triV c u) (triV c v) = false := by
      cases q : lexL (triV c u) (triV c v) with
      | false => rfl
      | true => rw [q] at z3; cases z3
    cases q : lexL (triV c v) (triV c u) with
    | true => rfl
    | false =>
      have e2 : v.place = u.place := congrArg (fun l : List Int => l.getD 2 0) (lex_total _ _ q z2)
      exact absurd (o.place (hL v ((scanS_perm c L).mem_iff.mp hv)) (hL u ((scanS_perm c L).mem_iff.mp hu)) e2) ne
  · rw [List.mem_map, List.mem_map]
    exact ⟨fun ⟨v, h, e⟩ => ⟨v, (scanS_perm c L).mem_iff.mp h, e⟩, fun ⟨v, h, e⟩ => ⟨v, (scanS_perm c L).mem_iff.mpr h, e⟩⟩
theorem seenM_nodup {S : Stand} {wr : Int} (o : OneRow S wr) : (seenM S wr).Nodup := (o.rise.imp fun {v u} h e => by rw [e] at h; omega).filter _
theorem read_scan {S : Stand} {wr c : Int} {lo hi : Option Int} (o : OneRow S wr) {ms es : List (List Int)} (h3 : ∀ k ∈ es, k.length = 3) (r : RunOf ms es) :
    PyData.tuple ((readK S wr c lo hi ms).map tupN) = .tuple ((scanS c ((keptM S wr c es).filter fun v => inB lo hi (keyAt v c))).map (tripS c)) := by
  rw [(readK_run o h3 r).uniq (scan_run o (fun v hv => (List.mem_filter.mp (List.mem_filter.mp hv).1).1) (((seenM_nodup o).filter _).filter _)), List.map_map]
  rfl
theorem kept_filter {S : Stand} {wr c : Int} {lo hi : Option Int} {es : List (List Int)} : (keptM S wr c es).filter (fun v => inB lo hi (keyAt v c)) = S.vers.filter (fun v => inB lo hi (keyAt v c) && (decide (entV c v ∈ es) && seeB S wr v)) := by
  unfold keptM seenM
  rw [List.filter_filter, List.filter_filter]
  exact List.filter_congr fun v _ => Bool.and_assoc ..
theorem lackK_head {S : Stand} {wr c : Int} {es : List (List Int)} : lackK S wr c es = ((seenM S wr).filter fun v => !decide (entV c v ∈ es)).head? := by
  rw [List.head?_filter]
  exact (find_filter S.vers).symm
theorem place_at {L : List Ver} : atI (L.map (fun v => PyData.int v.place) ++ [.none]) 0 = some (placeO L.head?) := by
  cases L with
  | nil => exact at_nat (n := 0) rfl
  | cons v L => exact at_nat (n := 0) rfl
theorem Th.repr {N : Nat} {B : Int} {d : PyData} (t : Th N B d) (hN : N ≤ 60) (hB : B ≤ 10 ^ 50) : reprOk d := (t.big hN hB).1.repr
theorem oneRow_of {S : Stand} {wr : Int} (R : Reach S.cols S) (hc : 1 ≤ S.cols ∧ S.cols ≤ 3) (hg : goneF S.fates wr = false) : OneRow S wr := by
  have u := R.uq hc
  have ok := (R.ok hc).ok
  have ng : ¬ Gn S.fates wr := fun g => by
    have g' : S.fates[wr.toNat]? = some .gone := g
    unfold goneF at hg
    rw [g'] at hg
    cases hg
  refine ⟨ok.rise, fun v hv x hx e => ?_⟩
  obtain ⟨v1, v2⟩ := List.mem_filter.mp hv
  obtain ⟨x1, x2⟩ := List.mem_filter.mp hx
  obtain ⟨i, hi⟩ := List.mem_iff_getElem?.mp v1
  obtain ⟨j, hj⟩ := List.mem_iff_getElem?.mp x1
  rcases Nat.lt_trichotomy i j with l | l | l
  · exact (u.one ng l hi hj e v2 x2).elim
  · rw [l, hj] at hi
    exact (Option.some.inj hi).symm
  · exact (u.one ng l hj hi e.symm x2 v2).elim
theorem body_gen {tb : DTS} {K N R : DSt → MH → Prop} {B : DK} {σ : DSt} {h : MH} (k : ∀ D : DEnds, (∀ σ h, K σ h → D.nx σ h) → tb D σ h) : tb { nx := K, ct := N, bk := R, rt := B } σ h := k _ fun _ _ z => z
theorem law_pure : ∀ ns : List Int, ns.length ≤ 63 → (∀ z ∈ ns, Builtin.Int.intBits z ≤ 1048576) → W_law [.d (.list (ns.map PyData.int))] (fun _ => none) (fun r _ => r = .d (.bool true)) fun _ _ => False := by
  intro ns hlen _
  refine fnW_mk rfl ?_
  unfold t_law
  show dSeq _ _ _ [some (.d (.list (ns.map PyData.int))), none, none, none, none, none, none, none, none, none, none, none, none, none, none, none, none, none, none] _
  walk_at "dl"
  refine w_feedD fun p o hp0 F => ?_
  have hs : (ns.take 63).length ≤ 63 := List.length_take_le _ _
  walk_at "dl"
  refine k_wRg1 ⟨by decide, by decide⟩ ?_
  refine for_inv (fun r σ h' => ∃ (o' : MO) (g : MH) (x2 x3 x4 x5 x6 x7 x8 x9 x10 x11 x12 x14 x15 x16 : Option SV), r.length ≤ 4 ∧ h' = mput g p o' ∧ FdD (ns.take 63) (10000 * (4 - r.length)) o' ∧
      σ = [some (.d (.list (ns.map PyData.int))), some (.own p), x2, x3, x4, x5, x6, x7, x8, x9, x10, x11, x12, none, x14, x15, x16, none, none]) ?_ ?_ _ _ _
    ⟨o, _, _, _, _, _, _, _, _, _, _, _, _, _, _, _, by decide, rfl, F.up (by decide), rfl⟩
  · rintro d r σ h' K ⟨o1, g, x2, x3, x4, x5, x6, x7, x8, x9, x10, x11, x12, x14, x15, x16, hr, rfl, F1, rfl⟩ hK
    rw [List.length_cons] at hr F1
    refine ⟨_, rfl, ?_⟩
    refine body_gen fun D1 hD1 => ?_
    walk_at "dl"
    refine w_some_standD put_same F1 hs (by push_cast; omega) fun S o2 R hc F2 => ?_
    rw [put_put]
    have dk := R.ok hc
    have ok := dk.ok
    have hsz := ok.size
    have hm := ok.many
    have hvl := ok.views
    have hin := ok.verIn
    have inV : ∀ v ∈ S.vers, InV S.fates v := fun v hv => (ok.vers v hv).inV
    have hcols := ok.cols
    have hcvA : ∀ c : Int, c < S.cols → ∀ v ∈ S.vers, c < v.vals.length := fun c hc v hv => by rw [(ok.vers v hv).cols]; omega
    have rS : reprOk S.enc := ok.sml.big.repr
    obtain ⟨tS, htS⟩ : ∃ tS, (S.enc).shown = tS := ⟨_, rfl⟩
    walk_at "dl"
    refine b_reprT rS htS ?_
    walk_at "dl"
    rw [List.length_map]
    refine k_wRg1 ⟨by omega, by omega⟩ ?_
    rw [rg0]
    refine ⟨by rw [sizeLine_eq, List.length_map, rgI_len]; omega, ?_⟩
    refine lc_enc (enc := PyData.int) (out := PyData.int) (fun i => !goneF S.fates i) (fun i hi => ⟨_, rfl, fun K hK => ?_, fun _ K hK => ?_⟩) ?_
    · obtain ⟨m0, m1⟩ := mem_rgI hi
      obtain ⟨y, r, g1, g2, g3, g4⟩ := gone_at (fs := S.fates) m0 m1
      walk_at "dl"
      refine r_ixT g1 ?_
      walk_at "dl"
      try refine r_ne rfl rfl g4 (shaped_ok (n := 1) (by decide) (by decide +kernel)) ?_
      rw [g3]
      walk_at "dl"
      exact hK
    · walk_at "dl"
      exact hK
    have hK1 : ∀ w ∈ (rgI (S.fates.length : Nat)).filter (fun i => !goneF S.fates i), inR S.fates.length w = true ∧ goneF S.fates w = false := fun w hw => by
      obtain ⟨m0, m1⟩ := mem_rgI (List.mem_filter.mp hw).1
      refine ⟨?_, notT (List.mem_filter.mp hw).2⟩
      unfold inR
      rw [decide_eq_true m0, decide_eq_true m1]
      rfl
    have hKl : ((rgI (S.fates.length : Nat)).filter (fun i => !goneF S.fates i)).length ≤ 20 := by
      have z := List.length_filter_le (fun i => !goneF S.fates i) (rgI (S.fates.length : Nat))
      rw [rgI_len] at z
      omega
    generalize (rgI (S.fates.length : Nat)).filter (fun i => !goneF S.fates i) = KL at hK1 hKl
    walk_at "dl"
    refine for_inv (fun r2 σ h' => ∃ (l2 : List Int) (o' : MO) (y5 y6 y7 y8 y9 y10 y11 y12 y14 y15 y16 : Option SV), r2 = l2.map PyData.int ∧ (∀ w ∈ l2, inR S.fates.length w = true ∧ goneF S.fates w = false) ∧ l2.length ≤ 20 ∧ h' = mput g p o' ∧ FdD (ns.take 63) (10000 * (3 - r.length) + 2100 + 200 * (20 - l2.length)) o' ∧
      σ = [some (.d (.list (ns.map PyData.int))), some (.own p), some (.d d), some (.d S.enc), some (.d (.str tS)), y5, y6, y7, y8, y9, y10, y11, y12, none, y14, y15, y16, none, none]) ?_ ?_ _ _ _
      ⟨KL, o2, _, _, _, _, _, _, _, _, _, _, _, rfl, hK1, hKl, rfl, F2.up (by push_cast; omega), rfl⟩
    · rintro d2 r2 σ h' K2 ⟨l2, o3, y5, y6, y7, y8, y9, y10, y11, y12, y14, y15, y16, er, hW, hll, rfl, F3, rfl⟩ hK2
      obtain ⟨wr, l2', rfl, rfl, rfl⟩ := map_cons_inv er
      obtain ⟨hwr, hgo⟩ := hW wr List.mem_cons_self
      rw [List.length_cons] at hll F3
      have one := oneRow_of R hc hgo
      refine ⟨_, rfl, ?_⟩
      refine body_gen fun D2 hD2 => ?_
      walk_at "dl"
      try simp only [List.set_cons_succ, List.set_cons_zero]
      refine w_drawD put_same F3 hs (by push_cast; omega) ⟨by omega, by omega⟩ fun c o4 c0 c1 F4 => ?_
      rw [put_put]
      have hcv := hcvA c c1
      walk_at "dl"
      try simp only [List.set_cons_succ, List.set_cons_zero]
      refine w_boundsR put_same F4 hs (by push_cast; omega) fun lo hi o5 F5 => ?_
      rw [put_put]
      walk_at "dl"
      try simp only [List.set_cons_succ, List.set_cons_zero]
      refine k_asgN2 ?_
      walk_at "dl"
      try simp only [List.set_cons_succ, List.set_cons_zero]
      refine w_some_entries put_same F5 hs (by push_cast; omega) hsz c0 hcv fun es o6 hel he3 F6 => ?_
      rw [put_put]
      walk_at "dl"
      try simp only [List.set_cons_succ, List.set_cons_zero]
      refine ⟨by rw [sizeLine_eq, List.length_map]; omega, ?_⟩
      refine lc_enc (enc := Ver.enc) (out := Ver.enc) (fun v => seeB S wr v) (fun v hm => ⟨_, rfl, fun K hK => ?_, fun _ K hK => ?_⟩) ?_
      · walk_at "dl"
        refine w_seesL hvl hwr (inV v hm) ?_
        walk_at "dl"
        exact hK
      · walk_at "dl"
        exact hK
      have hsm : S.vers.filter (fun v => seeB S wr v) = seenM S wr := rfl
      rw [hsm]
      have smem : ∀ v ∈ seenM S wr, v ∈ S.vers := fun v hv => (List.mem_filter.mp hv).1
      have slen : (seenM S wr).length ≤ 40 := Nat.le_trans (List.length_filter_le _ _) hsz
      walk_at "dl"
      try simp only [List.set_cons_succ, List.set_cons_zero]
      refine ⟨by rw [sizeLine_eq, List.length_map]; omega, ?_⟩
      refine lc_enc (enc := Ver.enc) (out := tripS c) (fun v => decide (entV c v ∈ es)) (fun v hm => ⟨_, rfl, fun K hK => ?_, fun _ K hK => ?_⟩) ?_
      · walk_at "dl"
        refine w_law_entry c0 (hcv v (smem v hm)) ?_
        walk_at "dl"
        refine r_inT (plain_tupN _) (plain_tups _) (dep_tupN _) ?_
        rw [any_tups]
        walk_at "dl"
        exact hK
      · walk_at "dl"
        refine r_ixT (key_at c0 (hcv v (smem v hm))) ?_
        walk_at "dl"
        exact hK
      have hkm : (seenM S wr).filter (fun v => decide (entV c v ∈ es)) = keptM S wr c es := rfl
      rw [hkm]
      have klen : (keptM S wr c es).length ≤ 40 := Nat.le_trans (List.length_filter_le _ _) slen
      walk_at "dl"
      try simp only [List.set_cons_succ, List.set_cons_zero]
      refine ⟨by rw [sizeLine_eq, List.length_map]; omega, ?_⟩
      refine lc_enc (enc := tripS c) (out := tripS c) (fun v => inB lo hi (keyAt v c)) (fun v hm => ⟨_, rfl, fun K hK => ?_, fun _ K hK => ?_⟩) ?_
      · walk_at "dl"
        refine w_fits ?_
        walk_at "dl"
        exact hK
      · walk_at "dl"
        exact hK
      obtain ⟨X0, eX0⟩ : ∃ X0, PyData.tuple ((scanS c (keptM S wr c es)).map (tripS c)) = X0 := ⟨_, rfl⟩
      obtain ⟨X1, eX1⟩ : ∃ X1, PyData.tuple ((scanS c ((keptM S wr c es).filter fun v => inB lo hi (keyAt v c))).map (tripS c)) = X1 := ⟨_, rfl⟩
      have r0 : reprOk X0 := by
        have e : keptM S wr c es = S.vers.filter fun v => decide (entV c v ∈ es) && seeB S wr v := by unfold keptM seenM; rw [List.filter_filter]
        rw [← eX0, e]
        exact (scan_th ok).repr (by decide) (by decide)
      have r1 : reprOk X1 := by
        rw [← eX1, kept_filter]
        exact (scan_th ok).repr (by decide) (by decide)
      have d0 : ∀ ms, RunOf ms es → PyData.tuple ((readK S wr c none none ms).map tupN) = X0 := fun ms ru => by
        have z := read_scan (c := c) (lo := none) (hi := none) one he3 ru
        rw [(List.filter_eq_self (p := fun v : Ver => inB none none (keyAt v c))).mpr fun _ _ => rfl] at z
        exact z.trans eX0
      have d1 : ∀ ms, RunOf ms es → PyData.tuple ((readK S wr c lo hi ms).map tupN) = X1 := fun ms ru => (read_scan one he3 ru).trans eX1
      walk_at "dl"
      try simp only [List.set_cons_succ, List.set_cons_zero]
      refine b_sortT 3 (tup3_ok c _) ?_
      rw [scanS_enc]
      walk_at "dl"
      try simp only [List.set_cons_succ, List.set_cons_zero]
      rw [eX1]
      walk_at "dl"
      try simp only [List.set_cons_succ, List.set_cons_zero]
      refine ⟨rfl, rfl, ?_⟩
      refine w_read (lo := none) (hi := none) one he3 (by omega) hsz hvl hwr inV c0 hcv fun ms ru => ?_
      rw [d0 ms ru]
      clear ru ms
      walk_at "dl"
      try simp only [List.set_cons_succ, List.set_cons_zero]
      refine b_repr r0 ?_
      walk_at "dl"
      try simp only [List.set_cons_succ, List.set_cons_zero]
      refine b_sortT 3 (tup3_ok c _) ?_
      rw [scanS_enc]
      walk_at "dl"
      try simp only [List.set_cons_succ, List.set_cons_zero]
      rw [eX0]
      refine b_repr r0 ?_
      walk_at "dl"
      try simp only [List.set_cons_succ, List.set_cons_zero]
      refine k_if (fun q => absurd q (by simp)) fun _ => ?_
      walk_at "dl"
      try simp only [List.set_cons_succ, List.set_cons_zero]
      refine ⟨rfl, rfl, ?_⟩
      refine w_read (lo := lo) (hi := hi) one he3 (by omega) hsz hvl hwr inV c0 hcv fun ms ru => ?_
      rw [d1 ms ru]
      clear ru ms
      walk_at "dl"
      try simp only [List.set_cons_succ, List.set_cons_zero]
      refine b_repr r1 ?_
      walk_at "dl"
      try simp only [List.set_cons_succ, List.set_cons_zero]
      refine b_repr r1 ?_
      walk_at "dl"
      try simp only [List.set_cons_succ, List.set_cons_zero]
      refine k_if (fun q => absurd q (by simp)) fun _ => ?_
      walk_at "dl"
      try simp only [List.set_cons_succ, List.set_cons_zero]
      refine ⟨by rw [sizeLine_eq, List.length_map]; omega, ?_⟩
      refine lc_enc (enc := Ver.enc) (out := fun v => .int v.place) (fun v => !decide (entV c v ∈ es)) (fun v hm => ⟨_, rfl, fun K hK => ?_, fun _ K hK => ?_⟩) ?_
      · walk_at "dl"
        refine w_law_entry c0 (hcv v (smem v hm)) ?_
        walk_at "dl"
        refine r_notInT (plain_tupN _) (plain_tups _) (dep_tupN _) ?_
        rw [any_tups]
        walk_at "dl"
        exact hK
      · walk_at "dl"
        exact hK
      walk_at "dl"
      try simp only [List.set_cons_succ, List.set_cons_zero]
      refine w_lacking (by omega) hvl hwr inV c0 hcv ?_
      rw [lackK_head (es := es)]
      walk_at "dl"
      try simp only [List.set_cons_succ, List.set_cons_zero]
      refine w_lacking (es := []) (by decide) hvl hwr inV c0 hcv ?_
      rw [lackK_head (es := []), (List.filter_eq_self (p := fun v : Ver => !decide (entV c v ∈ []))).mpr fun v _ => by simp]
      have flen : ((seenM S wr).filter fun v => !decide (entV c v ∈ es)).length ≤ 40 := Nat.le_trans (List.length_filter_le _ _) slen
      have fmem : ∀ v ∈ (seenM S wr).filter (fun v => !decide (entV c v ∈ es)), v ∈ S.vers := fun v hv => smem v (List.mem_filter.mp hv).1
      generalize (seenM S wr).filter (fun v => !decide (entV c v ∈ es)) = LL at flen fmem
      have rpl : ∀ L : List Ver, (∀ v ∈ L, v ∈ S.vers) → ∃ a, Big 0 1 (placeO L.head?) := fun L hL => by
        cases L with
        | nil => exact ⟨0, by decide, by decide⟩
        | cons v L =>
          have h1 := (ok.vers v (hL v List.mem_cons_self)).place
          have h2 := ok.far v (hL v List.mem_cons_self)
          exact ⟨0, Big.int (by omega)⟩
      obtain ⟨_, b0⟩ := rpl LL fmem
      obtain ⟨_, b1⟩ := rpl (seenM S wr) smem
      have rL : reprOk (.list [placeO LL.head?, placeO (seenM S wr).head?]) := ((BigL.cons (n := 0) (a := 1) b0 (BigL.cons (a := 1) b1 .nil)).lst).repr
      obtain ⟨tL, htL⟩ : ∃ tL, (PyData.list [placeO LL.head?, placeO (seenM S wr).head?]).shown = tL := ⟨_, rfl⟩
      walk_at "dl"
      try simp only [List.set_cons_succ, List.set_cons_zero]
      refine b_reprT rL htL ?_
      walk_at "dl"
      try simp only [List.set_cons_succ, List.set_cons_zero]
      refine r_addL (by rw [List.length_map]; show _ + 1 ≤ _; omega) ?_
      walk_at "dl"
      try simp only [List.set_cons_succ, List.set_cons_zero]
      refine r_ixL place_at ?_
      walk_at "dl"
      try simp only [List.set_cons_succ, List.set_cons_zero]
      have shM : SeqAt.shaped (.list ((seenM S wr).map Ver.enc)) = true := ((vers_sml (k := 40) (fun v z => hin v (smem v z)) slen).lst).shaped
      obtain ⟨tW, htW⟩ : ∃ tW, (PyData.tuple ((scanS c (seenM S wr)).map (tripS c))).shown = tW := ⟨_, rfl⟩
      have rW : reprOk (PyData.tuple ((scanS c (seenM S wr)).map (tripS c))) := (scan_th (p := seeB S wr) ok).repr (by decide) (by decide)
      have every : ∀ ms, RunOf ms (S.vers.map (entV c)) → PyData.tuple ((readK S wr c none none ms).map tupN) = .tuple ((scanS c (seenM S wr)).map (tripS c)) := fun ms ru => by
        have z := read_scan (c := c) (lo := none) (hi := none) one (fun k hk => by obtain ⟨v, _, rfl⟩ := List.mem_map.mp hk; rfl) ru
        rw [(List.filter_eq_self (p := fun v : Ver => inB none none (keyAt v c))).mpr fun _ _ => rfl] at z
        have e : keptM S wr c (S.vers.map (entV c)) = seenM S wr := List.filter_eq_self.mpr fun v hv => decide_eq_true (List.mem_map.mpr ⟨v, smem v hv, rfl⟩)
        rw [e] at z
        exact z
      have whole : S.vers.filter (keepR S wr c none none) = seenM S wr := List.filter_congr fun v _ => Bool.and_true _
      generalize hM : seenM S wr = M at rL htL shM every whole rW htW ⊢
      cases M with
      | nil =>
        try refine r_ne (e := .list []) rfl rfl shM rfl ?_
        rw [eqv_nilL]
        walk_at "dl"
        refine k_ifE (fun q => by cases q) fun _ => ?_
        walk_at "dl"
        try simp only [List.set_cons_succ, List.set_cons_zero]
        refine b_reprT rL htL ?_
        walk_at "dl"
        refine k_if (fun q => absurd q (by simp)) fun _ => ?_
        walk_at "dl"
        refine w_law_all hsz c0 hcv ?_
        walk_at "dl"
        try simp only [List.set_cons_succ, List.set_cons_zero]
        refine ⟨rfl, rfl, ?_⟩
        refine w_read (lo := none) (hi := none) one (fun k hk => by obtain ⟨v, _, rfl⟩ := List.mem_map.mp hk; rfl) (by rw [List.length_map]; omega) hsz hvl hwr inV c0 hcv fun ms ru => ?_
        rw [every ms ru]
        walk_at "dl"
        refine b_reprT rW htW ?_
        walk_at "dl"
        refine w_scanL (lo := none) (hi := none) (by omega) hvl hwr inV c0 hcv ?_
        rw [whole]
        walk_at "dl"
        refine b_reprT rW htW ?_
        walk_at "dl"
        refine k_if (fun q => absurd q (by simp)) fun _ => ?_
        walk_at "dl"
        exact hD2 _ _ (hK2 _ _ ⟨l2', o6, _, _, _, _, _, _, _, _, _, _, _, rfl, fun w hw => hW w (List.mem_cons_of_mem _ hw), by omega, rfl, F6.up (by push_cast; omega), rfl⟩)
      | cons v M =>
        try refine r_ne (e := .list []) rfl rfl shM rfl ?_
        rw [eqv_nilL]
        walk_at "dl"
        refine k_ifE (fun _ => ?_) fun q => by cases q
        walk_at "dl"
        refine r_ixL at_zero ?_
        walk_at "dl"
        try simp only [List.set_cons_succ, List.set_cons_zero]
        refine b_reprT rL htL ?_
        walk_at "dl"
        refine k_if (fun q => absurd q (by simp)) fun _ => ?_
        walk_at "dl"
        refine w_law_all hsz c0 hcv ?_
        walk_at "dl"
        try simp only [List.set_cons_succ, List.set_cons_zero]
        refine ⟨rfl, rfl, ?_⟩
        refine w_read (lo := none) (hi := none) one (fun k hk => by obtain ⟨v, _, rfl⟩ := List.mem_map.mp hk; rfl) (by rw [List.length_map]; omega) hsz hvl hwr inV c0 hcv fun ms ru => ?_
        rw [every ms ru]
        walk_at "dl"
        refine b_reprT rW htW ?_
        walk_at "dl"
        refine w_scanL (lo := none) (hi := none) (by omega) hvl hwr inV c0 hcv ?_
        rw [whole]
        walk_at "dl"
        refine b_reprT rW htW ?_
        walk_at "dl"
        refine k_if (fun q => absurd q (by simp)) fun _ => ?_
        walk_at "dl"
        exact hD2 _ _ (hK2 _ _ ⟨l2', o6, _, _, _, _, _, _, _, _, _, _, _, rfl, fun w hw => hW w (List.mem_cons_of_mem _ hw), by omega, rfl, F6.up (by push_cast; omega), rfl⟩)
    · rintro σ h' ⟨l2, o', y5, y6, y7, y8, y9, y10, y11, y12, y14, y15, y16, er, _, hl2, rfl, F3, rfl⟩
      walk_at "dl"
      refine b_reprT rS htS ?_
      walk_at "dl"
      refine k_if (fun q => absurd q (by simp)) fun _ => ?_
      walk_at "dl"
      exact hD1 _ _ (hK _ _ ⟨o', g, _, _, _, _, _, _, _, _, _, _, _, _, _, _, by omega, rfl, F3.up (by omega), rfl⟩)
  · rintro σ h' ⟨o', g, x2, x3, x4, x5, x6, x7, x8, x9, x10, x11, x12, x14, x15, x16, _, rfl, F', rfl⟩
    walk_at "dl"
    rfl

end DL.G
namespace DL.G
open PySem PySem.Spec PyProof.Rows L2
set_option autoImplicit true
def d_need_writer : He.DefD := ⟨("need_writer", none), "need_writer", "need_writer", defArgs s_need_writer, defBody s_need_writer, defScope s_need_writer, [], []⟩
def d_is_done_by : He.DefD := ⟨("is_done_by", none), "is_done_by", "is_done_by", defArgs s_is_done_by, defBody s_is_done_by, defScope s_is_done_by, [], []⟩
def d_is_on : He.DefD := ⟨("is_on", none), "is_on", "is_on", defArgs s_is_on, defBody s_is_on, defScope s_is_on, [], []⟩
def d_sees : He.DefD := ⟨("sees", none), "sees", "sees", defArgs s_sees, defBody s_sees, defScope s_sees, [], []⟩
def d_entry_of : He.DefD := ⟨("entry_of", none), "entry_of", "entry_of", defArgs s_entry_of, defBody s_entry_of, defScope s_entry_of, [], []⟩
def d_is_between : He.DefD := ⟨("is_between", none), "is_between", "is_between", defArgs s_is_between, defBody s_is_between, defScope s_is_between, [], []⟩
def d_read_entries : He.DefD := ⟨("read_entries", none), "read_entries", "read_entries", defArgs s_read_entries, defBody s_read_entries, defScope s_read_entries, [], [("low", .non), ("high", .non)]⟩
def d_lacking_of : He.DefD := ⟨("lacking_of", none), "lacking_of", "lacking_of", defArgs s_lacking_of, defBody s_lacking_of, defScope s_lacking_of, [], []⟩
def d__law_feed : He.DefD := ⟨("_law_feed", none), "_law_feed", "_law_feed", defArgs s__law_feed, defBody s__law_feed, defScope s__law_feed, [], []⟩
def d__law_draw : He.DefD := ⟨("_law_draw", none), "_law_draw", "_law_draw", defArgs s__law_draw, defBody s__law_draw, defScope s__law_draw, [], []⟩
def d__law_is_by : He.DefD := ⟨("_law_is_by", none), "_law_is_by", "_law_is_by", defArgs s__law_is_by, defBody s__law_is_by, defScope s__law_is_by, [], []⟩
def d__law_sees : He.DefD := ⟨("_law_sees", none), "_law_sees", "_law_sees", defArgs s__law_sees, defBody s__law_sees, defScope s__law_sees, [], []⟩
def d__law_many_done : He.DefD := ⟨("_law_many_done", none), "_law_many_done", "_law_many_done", defArgs s__law_many_done, defBody s__law_many_done, defScope s__law_many_done, [], []⟩
def d__law_written : He.DefD := ⟨("_law_written", none), "_law_written", "_law_written", defArgs s__law_written, defBody s__law_written, defScope s__law_written, [], []⟩
def d__law_stand : He.DefD := ⟨("_law_stand", none), "_law_stand", "_law_stand", defArgs s__law_stand, defBody s__law_stand, defScope s__law_stand, [], []⟩
def d__law_some_stand : He.DefD := ⟨("_law_some_stand", none), "_law_some_stand", "_law_some_stand", defArgs s__law_some_stand, defBody s__law_some_stand, defScope s__law_some_stand, [], []⟩
def d__law_entry : He.DefD := ⟨("_law_entry", none), "_law_entry", "_law_entry", defArgs s__law_entry, defBody s__law_entry, defScope s__law_entry, [], []⟩
def d__law_all : He.DefD := ⟨("_law_all", none), "_law_all", "_law_all", defArgs s__law_all, defBody s__law_all, defScope s__law_all, [], []⟩
def d__law_some_entries : He.DefD := ⟨("_law_some_entries", none), "_law_some_entries", "_law_some_entries", defArgs s__law_some_entries, defBody s__law_some_entries, defScope s__law_some_entries, [], []⟩
def d__law_fits : He.DefD := ⟨("_law_fits", none), "_law_fits", "_law_fits", defArgs s__law_fits, defBody s__law_fits, defScope s__law_fits, [], []⟩
def d__law_scan : He.DefD := ⟨("_law_scan", none), "_law_scan", "_law_scan", defArgs s__law_scan, defBody s__law_scan, defScope s__law_scan, [], []⟩
def d__law_bounds : He.DefD := ⟨("_law_bounds", none), "_law_bounds", "_law_bounds", defArgs s__law_bounds, defBody s__law_bounds, defScope s__law_bounds, [], []⟩
def d_law : He.DefD := ⟨("law", none), "law", "law", defArgs s_law, defBody s_law, defScope s_law, [], []⟩
abbrev si_NoWriter : Stmt := inClass (top 2) 0
def di_NoWriter : He.DefD := ⟨("NoWriter", some "__init__"), "__init__", "NoWriter.__init__", defArgs si_NoWriter, defBody si_NoWriter, defScope si_NoWriter, [], []⟩
def exB (K : PySem.W.Frag) : Bool := errB K "NoWriter" "LackError" ["number"] [.type "LookupError", .type "Exception", .type "BaseException", .type "object"] "LookupError.__new__" "LookupError.__init__"
def fns : List He.DefD := [d_need_writer, d_is_done_by, d_is_on, d_sees, d_entry_of, d_is_between, d_read_entries, d_lacking_of, d__law_feed, d__law_draw, d__law_is_by, d__law_sees, d__law_many_done, d__law_written, d__law_stand, d__law_some_stand, d__law_entry, d__law_all, d__law_some_entries, d__law_fits, d__law_scan, d__law_bounds, d_law, di_NoWriter]
def fas : List He.Fa := [.glo "need_writer", .glo "is_done_by", .glo "is_on", .glo "sees", .glo "entry_of", .glo "is_between", .glo "read_entries", .glo "lacking_of", .glo "_law_feed", .glo "_law_draw", .glo "_law_is_by", .glo "_law_sees", .glo "_law_many_done", .glo "_law_written", .glo "_law_stand", .glo "_law_some_stand", .glo "_law_entry", .glo "_law_all", .glo "_law_some_entries", .glo "_law_fits", .glo "_law_scan", .glo "_law_bounds", .glo "law", .free "len", .free "tuple", .free "sorted", .free "set", .free "list", .free "range", .free "max", .free "repr", .glo "NoWriter", .glo "LackError"]
def tfs : List He.Defn := []
def nm : He.Defn → Str := fun p => p.1 ++ ".<locals>.<lambda>"
abbrev R : PySem.W.OpenRow := PySem.W.OpenLaw.row PySem.Challenge.rw_besideindex_k62_read_by_entries
abbrev hk : PySem.W.Hook := DL.hookY 4 fas fns [] tfs exB
def ob (s : PySem.W.SharedT) : He.AlX := DL.obsY 4 fas fns [] tfs exB (HandSHeadRun.getT s)
theorem ob_eq (s : PySem.W.SharedT) : ob s = hk.obs s.abs := DL.obsY_eq (HandSHeadRun.getT_eq s)
def loose : List Str := (["LackError", "NoWriter", "need_writer", "is_done_by", "is_on", "sees", "entry_of", "is_between", "read_entries", "lacking_of", "_law_feed", "_law_draw", "_law_is_by", "_law_sees", "_law_many_done", "_law_written", "_law_stand", "_law_some_stand", "_law_entry", "_law_all", "_law_some_entries", "_law_fits", "_law_scan", "_law_bounds"] : List Str)
theorem run (w : World) : HandSHeadRun.RunEq R (PySem.W.view R.prog [29]) hk ob 4000 loose w := by
  intro os
  kernel_rfl
theorem init_NoWriter {K : PySem.W.Frag} {mg : Str → Option Value} {C Cb : Addr} {fI : Addr} {fd : FuncData} {B newId initId : String} {bmB : List Value} (T : ErrC K mg "NoWriter" "LackError" C Cb fI ["number"] B newId initId bmB) (F : FunD K di_NoWriter.name di_NoWriter.qual di_NoWriter.params di_NoWriter.body di_NoWriter.scope [] [] fI fd) : Init1 K mg C fI "number" :=
  fun prog w A R s e t0 v X hl hg he hne hr k => err_init1 T F ⟨rfl, rfl, rfl, rfl, rfl, fun y hy => by cases List.mem_singleton.mp hy; exact ⟨rfl, by decide, by decide⟩⟩ (fun _ _ _ _ _ _ us hl => match us, hl with | [_, _], _ => rfl) (fun _ => rfl) (fun _ => rfl) (by decide) (fun _ => rfl) X hl hg he hne hr k
theorem facts {w : World} {mg : Str → Option Value} {fa : Addr} {h : Heap} {K : PySem.W.Frag} (X : K.In h) (N : h.Ns mainGlobals mg) (hm : mg "law" = some (.ref fa)) (S : He.SaysX fas fns [] tfs exB w h K) :
    ∃ fd : FuncData, (∀ (s : Shared) (u : Value), BindsTo s fd ⟨[u], []⟩ [("_law_script", u)]) ∧ ∀ base : Heap, K.In base → base.Ns mainGlobals mg → (∀ c ∈ tfs.map (He.cT K), LamX.TabB base mg c.1 c.2) → FnG (PySem.Challenge.rw_besideindex_k62_read_by_entries).prog w K mg base (tabsT K tfs nm) 6 fa fd ["_law_script"] W_law := by
  obtain ⟨fd_need_writer, D_need_writer⟩ := S.t.d.def_ 0 (d := d_need_writer) rfl
  have F_need_writer := fun_of (x := "need_writer") (st := s_need_writer) D_need_writer
  have m_need_writer := He.glo_ok X N (S.t.d.fact 0 (f := .glo "need_writer") rfl)
  obtain ⟨fd_is_done_by, D_is_done_by⟩ := S.t.d.def_ 1 (d := d_is_done_by) rfl
  have F_is_done_by := fun_of (x := "is_done_by") (st := s_is_done_by) D_is_done_by
  have m_is_done_by := He.glo_ok X N (S.t.d.fact 1 (f := .glo "is_done_by") rfl)
  obtain ⟨fd_is_on, D_is_on⟩ := S.t.d.def_ 2 (d := d_is_on) rfl
  have F_is_on := fun_of (x := "is_on") (st := s_is_on) D_is_on
  have m_is_on := He.glo_ok X N (S.t.d.fact 2 (f := .glo "is_on") rfl)
  obtain ⟨fd_sees, D_sees⟩ := S.t.d.def_ 3 (d := d_sees) rfl
  have F_sees := fun_of (x := "sees") (st := s_sees) D_sees
  have m_sees := He.glo_ok X N (S.t.d.fact 3 (f := .glo "sees") rfl)
  obtain ⟨fd_entry_of, D_entry_of⟩ := S.t.d.def_ 4 (d := d_entry_of) rfl
  have F_entry_of := fun_of (x := "entry_of") (st := s_entry_of) D_entry_of
  have m_entry_of := He.glo_ok X N (S.t.d.fact 4 (f := .glo "entry_of") rfl)
  obtain ⟨fd_is_between, D_is_between⟩ := S.t.d.def_ 5 (d := d_is_between) rfl
  have F_is_between := fun_of (x := "is_between") (st := s_is_between) D_is_between
  have m_is_between := He.glo_ok X N (S.t.d.fact 5 (f := .glo "is_between") rfl)
  obtain ⟨fd_read_entries, D_read_entries⟩ := S.t.d.def_ 6 (d := d_read_entries) rfl
  have F_read_entries := fun_ofK (x := "read_entries") (st := s_read_entries) D_read_entries
  have m_read_entries := He.glo_ok X N (S.t.d.fact 6 (f := .glo "read_entries") rfl)
  obtain ⟨fd_lacking_of, D_lacking_of⟩ := S.t.d.def_ 7 (d := d_lacking_of) rfl
  have F_lacking_of := fun_of (x := "lacking_of") (st := s_lacking_of) D_lacking_of
  have m_lacking_of := He.glo_ok X N (S.t.d.fact 7 (f := .glo "lacking_of") rfl)
  obtain ⟨fd__law_feed, D__law_feed⟩ := S.t.d.def_ 8 (d := d__law_feed) rfl
  have F__law_feed := fun_of (x := "_law_feed") (st := s__law_feed) D__law_feed
  have m__law_feed := He.glo_ok X N (S.t.d.fact 8 (f := .glo "_law_feed") rfl)
  obtain ⟨fd__law_draw, D__law_draw⟩ := S.t.d.def_ 9 (d := d__law_draw) rfl
  have F__law_draw := fun_of (x := "_law_draw") (st := s__law_draw) D__law_draw
  have m__law_draw := He.glo_ok X N (S.t.d.fact 9 (f := .glo "_law_draw") rfl)
  obtain ⟨fd__law_is_by, D__law_is_by⟩ := S.t.d.def_ 10 (d := d__law_is_by) rfl
  have F__law_is_by := fun_of (x := "_law_is_by") (st := s__law_is_by) D__law_is_by
  have m__law_is_by := He.glo_ok X N (S.t.d.fact 10 (f := .glo "_law_is_by") rfl)
  obtain ⟨fd__law_sees, D__law_sees⟩ := S.t.d.def_ 11 (d := d__law_sees) rfl
  have F__law_sees := fun_of (x := "_law_sees") (st := s__law_sees) D__law_sees
  have m__law_sees := He.glo_ok X N (S.t.d.fact 11 (f := .glo "_law_sees") rfl)
  obtain ⟨fd__law_many_done, D__law_many_done⟩ := S.t.d.def_ 12 (d := d__law_many_done) rfl
  have F__law_many_done := fun_of (x := "_law_many_done") (st := s__law_many_done) D__law_many_done
  have m__law_many_done := He.glo_ok X N (S.t.d.fact 12 (f := .glo "_law_many_done") rfl)
  obtain ⟨fd__law_written, D__law_written⟩ := S.t.d.def_ 13 (d := d__law_written) rfl
  have F__law_written := fun_of (x := "_law_written") (st := s__law_written) D__law_written
  have m__law_written := He.glo_ok X N (S.t.d.fact 13 (f := .glo "_law_written") rfl)
  obtain ⟨fd__law_stand, D__law_stand⟩ := S.t.d.def_ 14 (d := d__law_stand) rfl
  have F__law_stand := fun_of (x := "_law_stand") (st := s__law_stand) D__law_stand
  have m__law_stand := He.glo_ok X N (S.t.d.fact 14 (f := .glo "_law_stand") rfl)
  obtain ⟨fd__law_some_stand, D__law_some_stand⟩ := S.t.d.def_ 15 (d := d__law_some_stand) rfl
  have F__law_some_stand := fun_of (x := "_law_some_stand") (st := s__law_some_stand) D__law_some_stand
  have m__law_some_stand := He.glo_ok X N (S.t.d.fact 15 (f := .glo "_law_some_stand") rfl)
  obtain ⟨fd__law_entry, D__law_entry⟩ := S.t.d.def_ 16 (d := d__law_entry) rfl
  have F__law_entry := fun_of (x := "_law_entry") (st := s__law_entry) D__law_entry
  have m__law_entry := He.glo_ok X N (S.t.d.fact 16 (f := .glo "_law_entry") rfl)
  obtain ⟨fd__law_all, D__law_all⟩ := S.t.d.def_ 17 (d := d__law_all) rfl
  have F__law_all := fun_of (x := "_law_all") (st := s__law_all) D__law_all
  have m__law_all := He.glo_ok X N (S.t.d.fact 17 (f := .glo "_law_all") rfl)
  obtain ⟨fd__law_some_entries, D__law_some_entries⟩ := S.t.d.def_ 18 (d := d__law_some_entries) rfl
  have F__law_some_entries := fun_of (x := "_law_some_entries") (st := s__law_some_entries) D__law_some_entries
  have m__law_some_entries := He.glo_ok X N (S.t.d.fact 18 (f := .glo "_law_some_entries") rfl)
  obtain ⟨fd__law_fits, D__law_fits⟩ := S.t.d.def_ 19 (d := d__law_fits) rfl
  have F__law_fits := fun_of (x := "_law_fits") (st := s__law_fits) D__law_fits
  have m__law_fits := He.glo_ok X N (S.t.d.fact 19 (f := .glo "_law_fits") rfl)
  obtain ⟨fd__law_scan, D__law_scan⟩ := S.t.d.def_ 20 (d := d__law_scan) rfl
  have F__law_scan := fun_of (x := "_law_scan") (st := s__law_scan) D__law_scan
  have m__law_scan := He.glo_ok X N (S.t.d.fact 20 (f := .glo "_law_scan") rfl)
  obtain ⟨fd__law_bounds, D__law_bounds⟩ := S.t.d.def_ 21 (d := d__law_bounds) rfl
  have F__law_bounds := fun_of (x := "_law_bounds") (st := s__law_bounds) D__law_bounds
  have m__law_bounds := He.glo_ok X N (S.t.d.fact 21 (f := .glo "_law_bounds") rfl)
  obtain ⟨fd_law, D_law⟩ := S.t.d.def_ 22 (d := d_law) rfl
  have F_law := fun_of (x := "law") (st := s_law) D_law
  have m_law := He.glo_ok X N (S.t.d.fact 22 (f := .glo "law") rfl)
  have g_len := He.free_ok X N (S.t.d.fact 23 (f := .free "len") rfl)
  have g_tuple := He.free_ok X N (S.t.d.fact 24 (f := .free "tuple") rfl)
  have g_sorted := He.free_ok X N (S.t.d.fact 25 (f := .free "sorted") rfl)
  have g_set := He.free_ok X N (S.t.d.fact 26 (f := .free "set") rfl)
  have g_list := He.free_ok X N (S.t.d.fact 27 (f := .free "list") rfl)
  have g_range := He.free_ok X N (S.t.d.fact 28 (f := .free "range") rfl)
  have g_max := He.free_ok X N (S.t.d.fact 29 (f := .free "max") rfl)
  have g_repr := He.free_ok X N (S.t.d.fact 30 (f := .free "repr") rfl)
  have m_NoWriter := He.glo_ok X N (S.t.d.fact 31 (f := .glo "NoWriter") rfl)
  have m_LackError := He.glo_ok X N (S.t.d.fact 32 (f := .glo "LackError") rfl)
  have ex0 : exB K = true := S.more
  unfold exB at ex0
  have x0 := ex0
  obtain ⟨fdi_NoWriter, Di_NoWriter⟩ := S.t.d.def_ 23 (d := di_NoWriter) rfl
  have T_NoWriter := errB_ok PySem.F.excBase_LookupError PySem.F.store_LookupError (by decide +kernel) m_NoWriter m_LackError x0
  have e_NoWriter : Err1 K mg "NoWriter" "number" := ⟨_, _, _, _, _, _, _, T_NoWriter, init_NoWriter T_NoWriter Di_NoWriter⟩
  have e := hm.symm.trans m_law
  cases e
  refine ⟨fd_law, fun s u => FunD.bindsA (ps := ["_law_script"]) D_law (fun _ _ _ _ _ _ us hl => match us, hl with | [_], _ => rfl) s [u] rfl, fun base KB NB TB => ?_⟩
  have c_need_writer : FnC (PySem.Challenge.rw_besideindex_k62_read_by_entries).prog w K mg base (tabsT K tfs nm) 1 "need_writer" ["stand", "writer"] W_need_writer := fn_c F_need_writer (f_need_writer (k := 0) F_need_writer g_len e_NoWriter) m_need_writer fun _ _ _ _ _ _ us hl => match us, hl with | [_, _], _ => rfl
  have c_is_done_by : FnC (PySem.Challenge.rw_besideindex_k62_read_by_entries).prog w K mg base (tabsT K tfs nm) 1 "is_done_by" ["stand", "other", "view"] W_is_done_by := fn_c F_is_done_by (f_is_done_by (k := 0) F_is_done_by) m_is_done_by fun _ _ _ _ _ _ us hl => match us, hl with | [_, _, _], _ => rfl
  have c_is_on : FnC (PySem.Challenge.rw_besideindex_k62_read_by_entries).prog w K mg base (tabsT K tfs nm) 2 "is_on" ["stand", "other", "writer"] W_is_on := fn_c F_is_on (f_is_on (k := 1) F_is_on (c_is_done_by.up (by decide)) (c_need_writer.up (by decide))) m_is_on fun _ _ _ _ _ _ us hl => match us, hl with | [_, _, _], _ => rfl
  have c_sees : FnC (PySem.Challenge.rw_besideindex_k62_read_by_entries).prog w K mg base (tabsT K tfs nm) 3 "sees" ["stand", "version", "writer"] W_sees := fn_c F_sees (f_sees (k := 2) F_sees (c_is_on.up (by decide))) m_sees fun _ _ _ _ _ _ us hl => match us, hl with | [_, _, _], _ => rfl
  have c_entry_of : FnC (PySem.Challenge.rw_besideindex_k62_read_by_entries).prog w K mg base (tabsT K tfs nm) 1 "entry_of" ["version", "column"] W_entry_of := fn_c F_entry_of (f_entry_of (k := 0) F_entry_of) m_entry_of fun _ _ _ _ _ _ us hl => match us, hl with | [_, _], _ => rfl
  have c_is_between : FnC (PySem.Challenge.rw_besideindex_k62_read_by_entries).prog w K mg base (tabsT K tfs nm) 1 "is_between" ["key", "low", "high"] W_is_between := fn_c F_is_between (f_is_between (k := 0) F_is_between) m_is_between fun _ _ _ _ _ _ us hl => match us, hl with | [_, _, _], _ => rfl
  have c_read_entries_K : FnK (PySem.Challenge.rw_besideindex_k62_read_by_entries).prog w K mg base (tabsT K tfs nm) 4 "read_entries" ["stand", "writer", "column", "entries", "low", "high"] ⟨4, [], [.none, .none], [(false, 0), (false, 1)]⟩ W_read_entries := fn_k (ms := [("low", .non), ("high", .non)]) D_read_entries (f_read_entries (k := 3) F_read_entries (c_is_between.up (by decide)) (c_sees.up (by decide)) g_tuple g_sorted g_set) m_read_entries (fun z => by cases z) (List.forall_mem_cons.mpr ⟨(.head _), List.forall_mem_cons.mpr ⟨(.tail _ (.head _)), fun q h => (by cases h)⟩⟩) rfl fun _ _ _ _ _ _ us mv ws h1 h2 h3 => match us, h1, mv, h2, ws, h3 with | [_, _, _, _], _, [_, _], _, [], _ => ⟨_, _, _, _, _, _, rfl, rfl, ⟨_, _, _, _, _, _, rfl, rfl, rfl⟩⟩
  have c_read_entries_K_high_low : FnK (PySem.Challenge.rw_besideindex_k62_read_by_entries).prog w K mg base (tabsT K tfs nm) 4 "read_entries" ["stand", "writer", "column", "entries", "low", "high"] ⟨4, ["high", "low"], [], [(true, 1), (true, 0)]⟩ W_read_entries := fn_k (ms := []) D_read_entries (f_read_entries (k := 3) F_read_entries (c_is_between.up (by decide)) (c_sees.up (by decide)) g_tuple g_sorted g_set) m_read_entries (fun z => by cases z) (fun q h => (by cases h)) rfl fun _ _ _ _ _ _ us mv ws h1 h2 h3 => match us, h1, mv, h2, ws, h3 with | [_, _, _, _], _, [], _, [_, _], _ => rfl
  have c_lacking_of : FnC (PySem.Challenge.rw_besideindex_k62_read_by_entries).prog w K mg base (tabsT K tfs nm) 4 "lacking_of" ["stand", "writer", "column", "entries"] W_lacking_of := fn_c F_lacking_of (f_lacking_of (k := 3) F_lacking_of (c_sees.up (by decide)) (c_entry_of.up (by decide))) m_lacking_of fun _ _ _ _ _ _ us hl => match us, hl with | [_, _, _, _], _ => rfl
  have c__law_feed : FnC (PySem.Challenge.rw_besideindex_k62_read_by_entries).prog w K mg base (tabsT K tfs nm) 1 "_law_feed" ["_law_script"] W__law_feed := fn_c F__law_feed (f__law_feed (k := 0) F__law_feed g_list) m__law_feed fun _ _ _ _ _ _ us hl => match us, hl with | [_], _ => rfl
  have c__law_draw : FnC (PySem.Challenge.rw_besideindex_k62_read_by_entries).prog w K mg base (tabsT K tfs nm) 1 "_law_draw" ["_law_feed_here", "_law_many"] W__law_draw := fn_c F__law_draw (f__law_draw (k := 0) F__law_draw g_len) m__law_draw fun _ _ _ _ _ _ us hl => match us, hl with | [_, _], _ => rfl
  have c__law_is_by : FnC (PySem.Challenge.rw_besideindex_k62_read_by_entries).prog w K mg base (tabsT K tfs nm) 1 "_law_is_by" ["_law_fates", "_law_other", "_law_view"] W__law_is_by := fn_c F__law_is_by (f__law_is_by (k := 0) F__law_is_by) m__law_is_by fun _ _ _ _ _ _ us hl => match us, hl with | [_, _, _], _ => rfl
  have c__law_sees : FnC (PySem.Challenge.rw_besideindex_k62_read_by_entries).prog w K mg base (tabsT K tfs nm) 2 "_law_sees" ["_law_stand_here", "_law_version", "_law_writer"] W__law_sees := fn_c F__law_sees (f__law_sees (k := 1) F__law_sees (c__law_is_by.up (by decide))) m__law_sees fun _ _ _ _ _ _ us hl => match us, hl with | [_, _, _], _ => rfl
  have c__law_many_done : FnC (PySem.Challenge.rw_besideindex_k62_read_by_entries).prog w K mg base (tabsT K tfs nm) 1 "_law_many_done" ["_law_fates"] W__law_many_done := fn_c F__law_many_done (f__law_many_done (k := 0) F__law_many_done g_len) m__law_many_done fun _ _ _ _ _ _ us hl => match us, hl with | [_], _ => rfl
  have c__law_written : FnC (PySem.Challenge.rw_besideindex_k62_read_by_entries).prog w K mg base (tabsT K tfs nm) 3 "_law_written" ["_law_feed_here", "_law_wide", "_law_some", "_law_fates", "_law_views", "_law_writer", "_law_way"] W__law_written := fn_c F__law_written (f__law_written (k := 2) F__law_written (c__law_draw.up (by decide)) (c__law_sees.up (by decide)) g_tuple g_range g_len g_max) m__law_written fun _ _ _ _ _ _ us hl => match us, hl with | [_, _, _, _, _, _, _], _ => rfl
  have c__law_stand : FnC (PySem.Challenge.rw_besideindex_k62_read_by_entries).prog w K mg base (tabsT K tfs nm) 4 "_law_stand" ["_law_feed_here", "_law_size"] W__law_stand := fn_c F__law_stand (f__law_stand (k := 3) F__law_stand (c__law_draw.up (by decide)) (c__law_many_done.up (by decide)) (c__law_written.up (by decide)) g_tuple g_range g_len) m__law_stand fun _ _ _ _ _ _ us hl => match us, hl with | [_, _], _ => rfl
  have c__law_some_stand : FnC (PySem.Challenge.rw_besideindex_k62_read_by_entries).prog w K mg base (tabsT K tfs nm) 5 "_law_some_stand" ["_law_feed_here"] W__law_some_stand := fn_c F__law_some_stand (f__law_some_stand (k := 4) F__law_some_stand (c__law_stand.up (by decide)) (c__law_draw.up (by decide))) m__law_some_stand fun _ _ _ _ _ _ us hl => match us, hl with | [_], _ => rfl
  have c__law_entry : FnC (PySem.Challenge.rw_besideindex_k62_read_by_entries).prog w K mg base (tabsT K tfs nm) 1 "_law_entry" ["_law_version", "_law_column"] W__law_entry := fn_c F__law_entry (f__law_entry (k := 0) F__law_entry) m__law_entry fun _ _ _ _ _ _ us hl => match us, hl with | [_, _], _ => rfl
  have c__law_all : FnC (PySem.Challenge.rw_besideindex_k62_read_by_entries).prog w K mg base (tabsT K tfs nm) 2 "_law_all" ["_law_stand_here", "_law_column"] W__law_all := fn_c F__law_all (f__law_all (k := 1) F__law_all (c__law_entry.up (by decide))) m__law_all fun _ _ _ _ _ _ us hl => match us, hl with | [_, _], _ => rfl
  have c__law_some_entries : FnC (PySem.Challenge.rw_besideindex_k62_read_by_entries).prog w K mg base (tabsT K tfs nm) 3 "_law_some_entries" ["_law_feed_here", "_law_stand_here", "_law_column"] W__law_some_entries := fn_c F__law_some_entries (f__law_some_entries (k := 2) F__law_some_entries (c__law_draw.up (by decide)) (c__law_all.up (by decide)) g_tuple g_range g_len) m__law_some_entries fun _ _ _ _ _ _ us hl => match us, hl with | [_, _, _], _ => rfl
  have c__law_fits : FnC (PySem.Challenge.rw_besideindex_k62_read_by_entries).prog w K mg base (tabsT K tfs nm) 1 "_law_fits" ["_law_mark", "_law_below", "_law_above"] W__law_fits := fn_c F__law_fits (f__law_fits (k := 0) F__law_fits) m__law_fits fun _ _ _ _ _ _ us hl => match us, hl with | [_, _, _], _ => rfl
  have c__law_scan : FnC (PySem.Challenge.rw_besideindex_k62_read_by_entries).prog w K mg base (tabsT K tfs nm) 3 "_law_scan" ["_law_stand_here", "_law_writer", "_law_column", "_law_below", "_law_above"] W__law_scan := fn_c F__law_scan (f__law_scan (k := 2) F__law_scan (c__law_sees.up (by decide)) (c__law_fits.up (by decide)) g_sorted g_tuple) m__law_scan fun _ _ _ _ _ _ us hl => match us, hl with | [_, _, _, _, _], _ => rfl
  have c__law_bounds : FnC (PySem.Challenge.rw_besideindex_k62_read_by_entries).prog w K mg base (tabsT K tfs nm) 2 "_law_bounds" ["_law_feed_here"] W__law_bounds := fn_c F__law_bounds (f__law_bounds (k := 1) F__law_bounds (c__law_draw.up (by decide))) m__law_bounds fun _ _ _ _ _ _ us hl => match us, hl with | [_], _ => rfl
  exact f_law (k := 5) F_law (c_read_entries_K.up (by decide)) (c__law_scan.up (by decide)) (c__law_all.up (by decide)) (c_lacking_of.up (by decide)) (c__law_entry.up (by decide)) (c_read_entries_K_high_low.up (by decide)) (c__law_fits.up (by decide)) (c__law_sees.up (by decide)) (c__law_some_entries.up (by decide)) (c__law_bounds.up (by decide)) (c__law_draw.up (by decide)) (c__law_some_stand.up (by decide)) (c__law_feed.up (by decide)) g_range g_repr g_len g_tuple g_sorted
end DL.G
open PySem PySem.W PySem.Calls PyProof.Rows
theorem PySem.Challenge.cw_besideindex_k62_read_by_entries_holds : PySem.Challenge.rw_besideindex_k62_read_by_entries.Holds := by
  w_on; o_law
  refine HandSHeadRun.head_any (r := OpenLaw.row PySem.Challenge.rw_besideindex_k62_read_by_entries) (q := view (OpenLaw.row PySem.Challenge.rw_besideindex_k62_read_by_entries).prog [29]) (H := DL.G.hk) (ob := DL.G.ob) (M := 4000) (loose := DL.G.loose)
    (d := HandSHeadRun.topDef (OpenLaw.row PySem.Challenge.rw_besideindex_k62_read_by_entries).prog 29) (kwd := []) DL.G.ob_eq
    (by kernel_rfl) (fun s => by kernel_rfl) DL.G.run (by kernel_rfl) (by kernel_rfl) (by kernel_rfl) (by rfl) (by first | assumption | decide +kernel) (by decide +kernel) ⟨rfl, rfl, rfl, rfl, rfl, by decide +kernel⟩ ?hw ?hc
  case hw => w_witness2
  case hc =>
    refine DL.walk_gY (l := PySem.Challenge.rw_besideindex_k62_read_by_entries) (n := 63) (k := 6) (x := "_law_script") (nm := DL.G.nm) (W := DL.G.W_law) rfl (by decide) (by kernel_rfl) ⟨rfl, by decide, by decide⟩ ?F DL.G.law_pure
    intro w mg fa h K X N hmg0 S
    have hmg : mg ("law" : PySem.Str) = some (.ref fa) := by
      have e : (HandSHeadRun.topDef (OpenLaw.row PySem.Challenge.rw_besideindex_k62_read_by_entries).prog 29).name = ("law" : PySem.Str) := by kernel_rfl
      rw [← e]
      exact hmg0
    exact DL.G.facts X N hmg S
