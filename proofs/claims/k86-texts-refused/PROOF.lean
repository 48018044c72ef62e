import PyProof.Rows.All
import Wide.All
import OpenK.AllK
import Wide.FinOn
import HandS.ForMost
import HandS.Exc
import HandS.ExcOwn
import HandS.TryOnly
import HandS.WordsExc
import HandS.Deep
import HandS.SortKw
import HandS.IsInst
import HandS.Zip
import HandS.Walk
import HandS.Style
import HandS.Flow
import HandS.Conv
import HandS.SortOrd
import HandS.Evl
import HandS.Lambda
import HandS.Rev
import HandS.TupAny
import HandS.TupSets
import HandS.SortRule
import HandS.Defaults
import HandS.AnyAll
import HandS.RevRange
import HandS.DictComp
import HandS.Strs
import HandS.Small
import HandS.TupLe
import HandS.DictTup
import HandS.SetKeys
import HandS.HeadHook1
import KE.SortData
import KE.SortKeyHeap
import KE.KDictKeyed
import HandS.EndTab
import HandS.HeadWalk
import PyProof.ReprRoads
import KE.KExcInit
import HandS.ExcInit
import HandS.ClsMeth
import HandS.ExcField
import HandS.ExcIs
import KE.KExcIs
import HandS.HeadHook4
import HandS.Head2
import HandS.HeadEnd
import HandS.ExcValue
import PyProof.TupleOfSeq
import HandS.MakeKwOnly
import KE.GoesEnum
import KE.DataMinMax
import HandS.SetFor
import KE.DataEq
import HandS.TupMul
import HandS.Iter
import PyProof.LongRange
import KE.KTryMore
import HandS.HotCalls
import HandS.Text
import PyProof.StrBlock2
import KE.GoesComp
import KE.GoesMore
import KE.DataFind
import KE.KDictZip
import PyProof.ListNew
import KE.KDictWalk
import KE.KDictSum
import HandS.TupLen
import PyProof.DictMoreH
import PyProof.AutoSeq1
import KE.GoesEnumKw
import HandS.FStr
import KE.KCallOwn
import KE.GoesZip
import PyProof.DictUpdate
import PyProof.Rows.SortShellAny
import KE.KDictCopyH
import KE.KDictExact
import HandS.TryMany
import KE.GoesSet
import KE.KDictLaws
import KE.KAssignIn
import KE.KDictPairs
import KE.KEqDict
import HandS.RaiseMore
import KE.IntTextLaws
import Lean
import PySem.Challenge.RW_besideindex_k86_texts_refused
set_option Elab.async false
set_option linter.all false
set_option maxRecDepth 100000
set_option maxHeartbeats 4000000
namespace DL
open PySem PySem.Spec PyProof.Rows L2
set_option autoImplicit true

abbrev QRow := List Int × Addr × V
abbrev QVal := List Int × Addr × Value
def entQ (x : QVal) : DictEntry := ⟨PySem.reduceHash (Builtin.Tuple.tupleHashOf (x.1.map PySem.hashInt)), .ref x.2.1, x.2.2⟩
def cellQ (h : Heap) (a : Addr) (xs : List QVal) : Prop := ∃ o es ep, h.get? a = some o ∧ o.ExactDict ∧ o.data = .dict es ep ∧ es.toList = xs.map entQ
abbrev QT : List QRow → List QVal → Prop := Paired fun p q => p.1 = q.1 ∧ p.2.1 = q.2.1 ∧ RelV p.2.2 q.2.2
def TDp (a : Addr) (L : List QRow) (h : Heap) : Prop := L.length ≤ sizeLine ∧ (a == sysModules) = false ∧ ∃ xs : List QVal, QT L xs ∧ (xs.map (·.1)).Nodup ∧ cellQ h a xs
section
variable {X : Cx} {pins : List (Addr × Obj)} {σ : L2.St} {H : Hp} {s : Shared} {a b : Addr} {L : List QRow} {k : List Int} {A : Around} {E : Value → Shared → Prop}
end
end DL
namespace DL
open PySem PySem.Spec PyProof.Rows L2
set_option autoImplicit true

inductive SV where
  | d (x : PyData)
  | own (a : Addr)
/-- what is one's own: a list of data; a list, a tuple, a dict, an instance with whatever within -/
inductive MO where
  | lst (xs : List PyData)
  | seq (xs : List SV)
  | tpl (xs : List SV)
  | dct (ps : List (Key × SV))
  | dcT (a : Addr) (ps : List (List Int × PyData))
  | dcl (o : Obj) (kvs : List (Key × V)) (ps : List (Key × SV))
  | ins (C : Str) (fs : List (Str × SV))
  | ptp (xs : List PyData)
abbrev MH := Addr → Option MO
abbrev DSt := List (Option SV)
abbrev DK := SV → MH → Prop
/-- one's own things but plain tuples are not read as data -/
def hid : Option MO → Bool
  | none => false
  | some (.ptp _) => false
  | some _ => true
theorem hid_put {h : MH} {a : Addr} (n : h a = none) : hid (h a) = false := by rw [n]; rfl
def Fzx (x : List Addr) (H : Hp) (h : MH) : Hp := fun a => if a ∈ x then none else if hid (h a) = true then none else match H a with
  | some (.tbl _) => none
  | o => o
theorem Fz.ofH {x : List Addr} {H : Hp} {h : MH} {a : Addr} {o : HO} (e : H a = some o) (n : hid (h a) = false) (nx : a ∉ x) (nt : ∀ ps, o ≠ .tbl ps := by intro ps z; cases z) : Fzx x H h a = some o := by
  unfold Fzx; rw [if_neg nx, if_neg (by rw [n]; exact Bool.false_ne_true), e]
  cases o <;> first | rfl | exact absurd rfl (nt _)
theorem Fz.of {x : List Addr} {H : Hp} {h : MH} {a : Addr} {o : HO} (e : H a = some o) (n : h a = none) (nx : a ∉ x) (nt : ∀ ps, o ≠ .tbl ps := by intro ps z; cases z) : Fzx x H h a = some o := Fz.ofH e (hid_put n) nx nt
theorem Fz.to {x : List Addr} {H : Hp} {h : MH} {a : Addr} {o : HO} (e : Fzx x H h a = some o) : H a = some o ∧ hid (h a) = false ∧ a ∉ x ∧ ∀ ps, o ≠ .tbl ps := by
  unfold Fzx at e
  by_cases m : a ∈ x
  · rw [if_pos m] at e; cases e
  · rw [if_neg m] at e
    cases q : hid (h a) with
    | true => rw [if_pos q] at e; cases e
    | false =>
      rw [if_neg (by rw [q]; exact Bool.false_ne_true)] at e
      have e' : (match H a with
        | some (.tbl _) => none
        | o => o) = some o := e
      cases r : H a with
      | none => rw [r] at e'; cases e'
      | some u =>
        rw [r] at e'
        cases u <;> first | (cases e'; exact ⟨rfl, rfl, m, fun _ z => by cases z⟩) | cases e'

abbrev Sub (H H' : Hp) : Prop := ∀ a o, H a = some o → H' a = some o
theorem rd_up {H H' : Hp} {a : Addr} {u : HO} (e : Sub H H') (r : Rd H a u) : Rd H' a u := by
  rcases r with r | ⟨o, r⟩
  · exact .inl (e _ _ r)
  · exact .inr ⟨o, e _ _ r⟩
theorem sqL_up {K : PySem.W.Frag} {H H' : Hp} {a : Addr} {xs : List V} (e : Sub H H') (r : SqL K H a xs) : SqL K H' a xs := r.imp (rd_up e) id
theorem sqT_up {K : PySem.W.Frag} {H H' : Hp} {a : Addr} {xs : List V} (e : Sub H H') (r : SqT K H a xs) : SqT K H' a xs := r.imp (rd_up e) id
mutual
theorem dp_up {K : PySem.W.Frag} {H H' : Hp} (e : Sub H H') : ∀ (d : PyData) (v : V), Dp K H v d → Dp K H' v d
  | .none, _, h => by cases h; exact .non
  | .bool b, _, h => by cases h; exact .bl b
  | .int i, _, h => by cases h; exact .int i
  | .str x, _, h => by cases h; exact .str x
  | .list ds, _, h => by
    cases h with
    | lst h1 h2 => exact .lst (sqL_up e h1) (dps_up e ds _ h2)
  | .tuple ds, _, h => by
    cases h with
    | tup h1 h2 => exact .tup (sqT_up e h1) (dps_up e ds _ h2)
  | .dict _, _, h => by cases h
theorem dps_up {K : PySem.W.Frag} {H H' : Hp} (e : Sub H H') : ∀ (ds : List PyData) (vs : List V), DpAll K H vs ds → DpAll K H' vs ds
  | [], _, h => by cases h; exact .nil
  | d :: ds, _, h => by
    cases h with
    | cons h1 h2 => exact .cons (dp_up e d _ h1) (dps_up e ds _ h2)
end
section
variable {K : PySem.W.Frag} {H H' : Hp}
end

structure PXx (x : List Addr) (H : Hp) (h : MH) (H' : Hp) (h' : MH) : Prop where
  ex : Sub (Fzx x H h) (Fzx x H' h')
  kx : ∀ a, a ∈ x → H' a = H a
/-- what a derivation leans on: lists that are being made (not to be read), tables of code objects, what stays true -/
structure GI where
  x : List Addr
  T : List (Addr × Str)
  G : Hp → MH → Prop
  st : ∀ {H h H' h'}, PXx x H h H' h' → G H h → G H' h'
abbrev Fz (Γ : GI) (H : Hp) (h : MH) : Hp := Fzx Γ.x H h
abbrev PX (Γ : GI) (H : Hp) (h : MH) (H' : Hp) (h' : MH) : Prop := PXx Γ.x H h H' h'
def RV (K : PySem.W.Frag) (Γ : GI) (H : Hp) (h : MH) (x : SV) (v : V) : Prop := match x with
  | .d d => Dp K (Fz Γ H h) v d
  | .own a => v = .ref a
def RVF (K : PySem.W.Frag) (F : Hp) (x : SV) (v : V) : Prop := match x with
  | .d d => Dp K F v d
  | .own a => v = .ref a
def RPF {κ : Type} (K : PySem.W.Frag) (F : Hp) (p : κ × SV) (q : κ × V) : Prop := p.1 = q.1 ∧ RVF K F p.2 q.2
/-- rows of a dict whose keys are tuples of ints -/
def RQF (K : PySem.W.Frag) (F : Hp) (p : List Int × PyData) (q : QRow) : Prop := p.1 = q.1 ∧ SqT K F q.2.1 (q.1.map V.int) ∧ Dp K F q.2.2 p.2
/-- content beside content -/
def ROF (K : PySem.W.Frag) (F : Hp) : MO → HO → Prop
  | .lst xs, .lst vs => DpAll K F vs xs
  | .seq xs, .lst vs => Paired (RVF K F) xs vs
  | .tpl xs, .tup vs => Paired (RVF K F) xs vs
  | .dct ps, .dK kvs => Paired (RPF K F) ps kvs
  | .dcl o kvs ps, .frz o' u => o' = o ∧ u = .dK kvs ∧ Paired (RPF K F) ps kvs
  | .dcT a ps, .ext φ => ∃ L, φ = TDp a L ∧ Paired (RQF K F) ps L
  | .ins C fs, .ins C' _ gs => C' = He.ga K C ∧ Paired (RPF K F) fs gs
  | .ptp xs, .frz o u => o.dict = none ∧ ∃ vs, u = .tup vs ∧ DpAll K F vs xs
  | _, _ => False
def RO (K : PySem.W.Frag) (Γ : GI) (H : Hp) (h : MH) (a : Addr) (o : MO) : Prop := match o with
  | .lst xs => ∃ vs, H a = some (.lst vs) ∧ DpAll K (Fz Γ H h) vs xs
  | o => ∃ u, H a = some u ∧ ROF K (Fz Γ H h) o u
theorem ro_at {K : PySem.W.Frag} {Γ : GI} {H : Hp} {h : MH} {a : Addr} {o : MO} (r : RO K Γ H h a o) : ∃ u, H a = some u ∧ ROF K (Fz Γ H h) o u := by
  cases o with
  | lst xs =>
    obtain ⟨vs, e, q⟩ := r
    exact ⟨_, e, q⟩
  | _ => exact r
structure RM (K : PySem.W.Frag) (Γ : GI) (H : Hp) (h : MH) : Prop where
  ob : ∀ a o, h a = some o → RO K Γ H h a o
  g : Γ.G H h
  nx : ∀ a, a ∈ Γ.x → h a = none ∧ ∃ xs, H a = some (.lst xs)
  tb : LamX.Tabs Γ.T H
theorem PXx.refl {x : List Addr} {H : Hp} {h : MH} : PXx x H h H h := ⟨fun _ _ e => e, fun _ _ => rfl⟩
theorem PXx.trans {x : List Addr} {H H1 H2 : Hp} {h h1 h2 : MH} (a : PXx x H h H1 h1) (b : PXx x H1 h1 H2 h2) : PXx x H h H2 h2 := ⟨fun x o e => b.ex x o (a.ex x o e), fun p hp => (b.kx p hp).trans (a.kx p hp)⟩
theorem PX.refl {H : Hp} {h : MH} : PX Γ H h H h := PXx.refl
theorem RM.tracked {K : PySem.W.Frag} {H : Hp} {h : MH} (r : RM K Γ H h) {a : Addr} (n : H a = none) : h a = none := by
  cases q : h a with
  | none => rfl
  | some o =>
    obtain ⟨u, e, _⟩ := ro_at (r.ob a o q)
    rw [n] at e; cases e
def RSt (K : PySem.W.Frag) (Γ : GI) (H : Hp) (h : MH) (σd : DSt) (σ : L2.St) : Prop := σd.length = σ.length ∧ ∀ (i : Nat) (x : SV), σd[i]? = some (some x) → ∃ v, σ[i]? = some (some v) ∧ RV K Γ H h x v
section
variable {K : PySem.W.Frag} {H H' : Hp} {h h' : MH} {σd : DSt} {σ : L2.St}
theorem RSt.set {i : Nat} {x : SV} {v : V} (r : RSt K Γ H h σd σ) (rv : RV K Γ H h x v) : RSt K Γ H h (σd.set i (some x)) (σ.set i (some v)) := by
  refine ⟨by simp [r.1], fun j y e => ?_⟩
  by_cases q : i = j
  · subst q
    by_cases l : i < σd.length
    · rw [List.getElem?_set_self l] at e
      cases e
      exact ⟨v, by rw [List.getElem?_set_self (by rw [← r.1]; exact l)], rv⟩
    · rw [List.getElem?_eq_none (by simpa using l)] at e; cases e
  · rw [List.getElem?_set_ne q] at e
    obtain ⟨w, e1, e2⟩ := r.2 j y e
    exact ⟨w, by rw [List.getElem?_set_ne q]; exact e1, e2⟩
end

section
variable {X : Cx} {a b c e : Expr} {pos : Pos}
end
end DL

namespace DL
open PySem PySem.Spec PyProof.Rows L2
set_option autoImplicit true

section
variable {K : PySem.W.Frag} {H : Hp} {h : MH} {x y : SV} {v : V}
end

section
variable {K : PySem.W.Frag}
end

/-- data as a whole: what is one's own is looked through -/
def asD (h : MH) (x : SV) : Option PyData := match x with
  | .d d => some d
  | .own a => match h a with
    | some (.lst xs) => some (.list xs)
    | _ => none
section
variable {K : PySem.W.Frag}
def isNone : SV → Bool
  | .d .none => true
  | _ => false
end

section
variable {X : Cx} {a b c e : Expr} {pos p2 : Pos} {ta tb tc te : DTE} {t : DTA} {es : List Expr}
end
end DL

namespace DL
open PySem PySem.Spec PyProof.Rows L2
set_option autoImplicit true

structure DEnds where
  nx : DSt → MH → Prop
  rt : DK
  bk : DSt → MH → Prop
  ct : DSt → MH → Prop
abbrev DTS := DEnds → DSt → MH → Prop
section
variable {X : Cx} {a b c e : Expr} {pos p2 : Pos} {ta tb tc te : DTE} {t u : DTS} {st : Stmt} {rest : List Stmt} {es : List Expr}
section
variable {prog : Program} {w : World} {A : Around} {EX : Value → Shared → Prop} {s : Shared} {env : Env}
end
end
end DL

namespace DL
open PySem PySem.Spec PyProof.Rows L2
set_option autoImplicit true

structure DExc where
  cls : Str
  fs : List (Str × PyData)
def RX (K : PySem.W.Frag) (Γ : GI) (H : Hp) (h : MH) (x : DExc) (cls : Value) (d : Option Addr) : Prop :=
  cls = .ref (He.ga K x.cls) ∧ ((d = none ∧ x.fs = []) ∨ ∃ dd vs, d = some dd ∧ Fz Γ H h dd = some (.xd vs) ∧ Paired (fun (p : Str × PyData) (q : Str × V) => p.1 = q.1 ∧ Dp K (Fz Γ H h) q.2 p.2) x.fs vs)
def G0 (xs : List Addr) (T : List (Addr × Str)) : GI := ⟨xs, T, fun _ _ => True, fun _ _ => trivial⟩
theorem rx_up {K : PySem.W.Frag} {H H' : Hp} {h h' : MH} {x : DExc} {cls : Value} {d : Option Addr} (p : PX Γ H h H' h') (r : RX K Γ H h x cls d) : RX K Γ H' h' x cls d := by
  obtain ⟨e, r⟩ := r
  refine ⟨e, r.imp id ?_⟩
  rintro ⟨dd, vs, e1, e2, e3⟩
  exact ⟨dd, vs, e1, p.ex _ _ e2, Paired.mapP e3 fun _ _ z => ⟨z.1, dp_up p.ex _ _ z.2⟩⟩
section
variable {P : Program} {w : World} {K : PySem.W.Frag} {mg : Str → Option Value} {base : Heap}
end

section
variable {X : Cx} {k : Nat} {f : Addr} {fd : FuncData} {ps : List Str} {W : DSp} {E : DXS} {x : Str} {p pos : Pos} {e : Expr} {es : List Expr} {t : DTA}
end
end DL

namespace DL
open PySem PySem.Spec PyProof.Rows L2
set_option autoImplicit true

/-- a tuple that begins with the ints ns, and the values behind them -/
def HdAt (h : Heap) (v : Value) (ns : List Int) (rest : List Value) : Prop := ∃ a o n is, v = .ref a ∧ h.get? a = some o ∧ o.cls = .type "tuple" ∧ o.data = .seq (is ++ rest).toArray n ∧ IntsAre is ns
theorem HdAt.keeps {h h' : Heap} {v : Value} {ns : List Int} {r : List Value} (a : HdAt h v ns r) (k : ∀ b o, h.get? b = some o → o.cls = .type "tuple" → h'.get? b = some o) : HdAt h' v ns r := by
  obtain ⟨p, o, n, is, e, h1, h2, h3, h4⟩ := a
  exact ⟨p, o, n, is, e, k _ _ h1 h2, h2, h3, h4⟩
open Classical in
section
variable {prog : Program} {w : World} {A : Around} {E : Value → Shared → Prop} {s : Shared}
end
end DL

namespace DL
open PySem PySem.Spec PyProof.Rows L2
set_option autoImplicit true

section
variable {prog : Program} {w : World} {A : Around} {s : Shared}
/-- v, a tuple that begins with the ints p, r -/
def Hd2 (h : Heap) (v : Value) (p r : Int) : Prop := ∃ a its, v = .ref a ∧ IsTup h a its ∧ ∃ t u : Tok, its[0]? = some (.int p t) ∧ its[1]? = some (.int r u)
theorem Hd2.keeps {h h' : Heap} {v : Value} {p r : Int} (k : ∀ b o, h.get? b = some o → h'.get? b = some o) (x : Hd2 h v p r) : Hd2 h' v p r := by
  obtain ⟨a, its, e, ⟨o, g1, g2, n, g3⟩, y⟩ := x
  exact ⟨a, its, e, ⟨o, k _ _ g1, g2, n, g3⟩, y⟩
end

section
variable {prog : Program} {w : World} {A : Around} {EX : Value → Shared → Prop} {s : Shared} {β : Type} {vs : List Value} {bs : List β} {R : Value → β → Prop}
open PySem.W in
end
end DL

namespace DL
open PySem PySem.Spec PyProof.Rows L2
set_option autoImplicit true

/-- what is tracked ahead of the call: empty tables; the script, if it is no object of the module -/
def hpTop (K : PySem.W.Frag) (ts : List Addr) (a : Addr) (o : Obj) (u : HO) : Hp := fun x => if x ∈ ts then some (.tbl #[]) else if x = a ∧ (K.lookup a).isNone = true then some (.frz o u) else none
theorem hpTop_cases {K : PySem.W.Frag} {ts : List Addr} {a x : Addr} {o : Obj} {u z : HO} (e : hpTop K ts a o u x = some z) : (x ∈ ts ∧ z = .tbl #[]) ∨ (x ∉ ts ∧ x = a ∧ K.lookup a = none ∧ z = .frz o u) := by
  unfold hpTop at e
  split at e
  · rename_i m
    cases e
    exact .inl ⟨m, rfl⟩
  · rename_i m
    split at e
    · rename_i q
      cases e
      exact .inr ⟨m, q.1, Option.isNone_iff_eq_none.mp q.2, rfl⟩
    · cases e
structure TopOk (K : PySem.W.Frag) (mg mb : Str → Option Value) (cs : List (Addr × Addr)) (t : Shared) (a : Addr) (vs : List Value) (ns : List Int) : Prop where
  kin : K.In t.heap
  glo : t.heap.Ns mainGlobals mg
  blt : t.heap.Ns builtinsNs mb
  bltX : ∀ y : Str, y ≠ "__name__" → mb y = bootBuiltins y
  lim : t.heap.NoLimit
  gen : t.gens = #[]
  tab : ∀ c ∈ cs, t.heap.get? c.2 = some { cls := .none, data := .fields #[] }
  tabK : ∀ c ∈ cs, K.lookup c.2 = none
  cod : ∀ c ∈ cs, PySem.W.CodeHd t.heap c.1 c.2
  mod : ∃ (m : Addr) (o : Obj), mg "__builtins__" = some (.ref m) ∧ m ≠ builtinsNs ∧ t.heap.get? m = some o ∧ o.cls = .type "module" ∧ o.dict = some builtinsNs ∧ o.data = .plain
  scr : t.heap.get? a = some { cls := .type "list", data := .seq vs.toArray }
  int : IntsAre vs ns
  len : ns.length ≤ sizeLine
section
variable {P : Program} {w : World} {K : PySem.W.Frag} {mg mb : Str → Option Value} {cs : List (Addr × Addr)} {t : Shared} {a : Addr} {vs : List Value} {ns : List Int}
abbrev topHp (K : PySem.W.Frag) (cs : List (Addr × Addr)) (a : Addr) (vs : List Value) (ns : List Int) : Hp := hpTop K (cs.map (·.2)) a { cls := .type "list", data := .seq vs.toArray } (.lst (ns.map V.int))
theorem TopOk.isTab (G : TopOk K mg mb cs t a vs ns) {x : Addr} (m : x ∈ cs.map (·.2)) : t.heap.get? x = some { cls := .none, data := .fields #[] } ∧ K.lookup x = none := by
  obtain ⟨c, hc, rfl⟩ := List.mem_map.mp m
  exact ⟨G.tab c hc, G.tabK c hc⟩
/-- what is no list, no empty table, is not tracked -/
theorem TopOk.free (G : TopOk K mg mb cs t a vs ns) {x : Addr} {o : Obj} (e : t.heap.get? x = some o) (h1 : ∀ us n, o.data ≠ .seq us n) (h2 : o.data ≠ .fields #[]) : topHp K cs a vs ns x = none := by
  cases q : topHp K cs a vs ns x with
  | none => rfl
  | some u =>
    rcases hpTop_cases q with ⟨m, _⟩ | ⟨_, ea, _, _⟩
    · rw [(G.isTab m).1] at e
      cases e
      exact (h2 rfl).elim
    · rw [ea, G.scr] at e
      cases e
      exact (h1 _ _ rfl).elim
end
end DL

namespace DL
open PySem PySem.Spec PyProof.Rows L2
set_option autoImplicit true

def GI.at (Γ : GI) (H0 : Hp) (h0 : MH) : GI where
  x := Γ.x
  T := Γ.T
  G := fun H h => Γ.G H h ∧ PXx Γ.x H0 h0 H h
  st := fun p q => ⟨Γ.st p q.1, q.2.trans p⟩
theorem RM.at {K : PySem.W.Frag} {H : Hp} {h : MH} (r : RM K Γ H h) : RM K (Γ.at H h) H h := ⟨r.ob, ⟨r.g, PXx.refl⟩, r.nx, r.tb⟩
/-- where an exception is held -/
def GI.exc (Γ : GI) (K : PySem.W.Frag) (y : DExc) (cls : Value) (d : Option Addr) : GI where
  x := Γ.x
  T := Γ.T
  G := fun H h => Γ.G H h ∧ RX K (G0 Γ.x Γ.T) H h y cls d
  st := fun p q => ⟨Γ.st p q.1, rx_up (Γ := G0 Γ.x Γ.T) p q.2⟩
abbrev clrN (i : Nat) (D : DEnds) : DEnds := { nx := fun σ' h' => D.nx (σ'.set i none) h', rt := D.rt, bk := fun σ' h' => D.bk (σ'.set i none) h', ct := fun σ' h' => D.ct (σ'.set i none) h' }
section
variable {X : Cx} {x n : Str} {cv : Value} {i : Nat} {body suite : List Stmt} {b₀ : Stmt} {np pos pos' : Pos} {kt : Str → Str → Option Bool} {tb : DXS → DTS} {ts : Addr → DExc → DTS} {Eo : DXS}
end

/-- a class by its name -/
def btV (n : Str) : Option Value := if n = "LookupError" then some (.type "LookupError") else if n = "ValueError" then some (.type "ValueError") else if n = "Exception" then some (.type "Exception") else none
def cvK (K : PySem.W.Frag) (n : Str) : Value := match btV n with
  | some v => v
  | none => .ref (He.ga K n)
def anyK (kt : Str → Str → Option Bool) (c : Str) : List Str → Option Bool
  | [] => some false
  | n :: r => match kt c n with
    | some true => some true
    | some false => anyK kt c r
    | none => none
/-- what the written part says of the law's own error classes -/
structure KitE (K : PySem.W.Frag) (kt : Str → Str → Option Bool) (xt : Str → Str → Bool) : Prop where
  exc : ∀ c n b, kt c n = some b → ExcC K (He.ga K c)
  exm : ∀ c n b, kt c n = some b → PySem.W.exmOne K (.ref (He.ga K c)) (cvK K n) = some b
  kit : ∀ c n b, kt c n = some b → PySem.W.kitOne K (.ref (He.ga K c)) (cvK K n) = some b
  xf : ∀ c f, xt c f = true → XfC K (He.ga K c) ∧ PySem.W.findIn K (.ref (He.ga K c)) f = some none
theorem KitE.any {K : PySem.W.Frag} {kt : Str → Str → Option Bool} {xt : Str → Str → Bool} (T : KitE K kt xt) {c : Str} : ∀ {ns : List Str} {b : Bool}, anyK kt c ns = some b → PySem.W.kitAny K (.ref (He.ga K c)) (ns.map (cvK K)) = some b
  | [], b, h => h
  | n :: r, b, h => by
    unfold anyK at h
    show PySem.W.kitAny K _ (cvK K n :: r.map (cvK K)) = _
    split at h
    · rename_i e
      unfold PySem.W.kitAny
      rw [T.kit _ _ _ e]
      exact h
    · rename_i e
      unfold PySem.W.kitAny
      rw [T.kit _ _ _ e]
      exact T.any h
    · cases h
section
variable {X : Cx} {n x : Str} {pos p : Pos} {e : Expr} {es : List Expr} {ns : List Str}
end
section
variable {X : Cx} {Γ1 : GI} {kt : Str → Str → Option Bool} {xt : Str → Str → Bool} {a : Addr} {oe : Obj} {y : DExc} {d : Option Addr} {pn : List (Addr × Obj)} {x n f : Str} {pos p p1 p2 : Pos} {c e : Expr} {es : List Expr} {ns : List Str}
end
end DL

namespace DL
open PySem PySem.Spec PyProof.Rows L2
set_option autoImplicit true

def clsB (K : PySem.W.Frag) (C : Addr) (bmB : List Value) (newId : String) : Bool := match K.lookup C with
  | some ⟨.type "type", _, .cls cd, sl⟩ => (match cd.mro, sl.toList with
    | .ref C' :: bm, [_, _, _, _, some (.builtin n), _] => C' == C && (n == newId && (!cd.hasDel && (cd.hasDict && PySem.W.excTail bmB bm)))
    | _, _ => false)
  | _ => false
def fcB (K : PySem.W.Frag) (Cb : Addr) (initId : String) : Bool := match PySem.W.findCls K (.ref Cb) (.type "type") "__init__" with
  | some (.val (.builtin i)) => i == initId
  | _ => false
def errB (K : PySem.W.Frag) (x base : Str) (fs : List Str) (bmB : List Value) (newId initId : String) : Bool :=
  clsB K (He.ga K x) bmB newId && (PySem.W.excOver K (He.ga K x) bmB && (decide (PySem.W.findIn K (.ref (He.ga K x)) "__setattr__" = some (some (.builtin "object.__setattr__"))) && (decide (PySem.W.findIn K (.ref (He.ga K x)) "__getattribute__" = some (some (.builtin "BaseException.__getattribute__"))) &&
  (decide (PySem.W.findIn K (.ref (He.ga K x)) "__getattr__" = some none) && (fs.all (fun f => decide (PySem.W.takerIn K (He.ga K x) f = some none) && decide (PySem.W.findIn K (.ref (He.ga K x)) f = some none)) && (decide (PySem.W.findIn K (.ref (He.ga K x)) "__init__" = some (some (.ref (He.ma K (He.ga K x) "__init__")))) &&
  (decide (PySem.W.typeIn K (.ref (He.ma K (He.ga K x) "__init__")) = some (.type "function")) && (PySem.W.keepIn K (.ref (He.ga K x)) && (decide (PySem.W.subIn K (.ref (He.ga K x)) (.type "BaseException") = some true) && (decide (PySem.W.typeIn K (.ref (He.ga K x)) = some (.type "type")) &&
  (PySem.W.hasDictIn K (He.ga K x) && (PySem.W.readsIn K (He.ga K base) (.type "type") && (decide (PySem.W.specialIn K (.ref (He.ga K base)) "__getattribute__" = some (some (.builtin "type.__getattribute__"))) && fcB K (He.ga K base) initId)))))))))))))
def ktL (l : List (Str × Str × Bool)) : Str → Str → Option Bool := fun c n => (l.find? fun p => p.1 == c && p.2.1 == n).map (·.2.2)
def xtL (l : List (Str × Str)) : Str → Str → Bool := fun c f => l.any fun p => p.1 == c && p.2 == f
def excB (K : PySem.W.Frag) (D : Addr) : Bool :=
  decide (PySem.W.findIn K (.ref D) "__getattribute__" = some (some (.builtin "BaseException.__getattribute__"))) && (decide (PySem.W.findIn K (.ref D) "__getattr__" = some none) && (decide (PySem.W.subIn K (.ref D) (.type "BaseException") = some true) && (PySem.W.hasDictIn K D &&
  (decide (PySem.W.findIn K (.ref D) "__class__" = some (some (.builtin "object.__class__"))) && (decide (PySem.W.specialIn K (.builtin "object.__class__") "__get__" = some (some (.builtin "getset_descriptor.__get__"))) && (decide (PySem.W.takesIn K (.builtin "object.__class__") = some true) && decide (PySem.W.mroIn K D (.type "object") = some true)))))))
def kitLB (K : PySem.W.Frag) (kl : List (Str × Str × Bool)) (xl : List (Str × Str)) : Bool :=
  kl.all (fun p => excB K (He.ga K p.1) && (decide (PySem.W.exmOne K (.ref (He.ga K p.1)) (cvK K p.2.1) = some p.2.2) && decide (PySem.W.kitOne K (.ref (He.ga K p.1)) (cvK K p.2.1) = some p.2.2))) &&
  xl.all fun p => xfB K (He.ga K p.1) && decide (PySem.W.findIn K (.ref (He.ga K p.1)) p.2 = some none)
def asY (g : Addr → Option Obj) (n : Nat) : List Addr := He.asD g n ++ [PySem.cStatics]
abbrev frY (g : Addr → Option Obj) (n : Nat) : PySem.W.Frag := He.frT g (asY g n)
def obsY (n : Nat) (fa : List He.Fa) (fn : List He.DefD) (ts : List He.Tab) (tf : List He.Defn) (ex : PySem.W.Frag → Bool) (g : Addr → Option Obj) : He.AlX :=
  (He.obsT fa fn ts (frY g n), ex (frY g n) && He.tabsB g tf (frY g n))
theorem saysY_of {n : Nat} {fa : List He.Fa} {fn : List He.DefD} {ts : List He.Tab} {tf : List He.Defn} {ex : PySem.W.Frag → Bool} {w : World} {h : Heap} (e : obsY n fa fn ts tf ex h.get? = He.valX fn ts w) : He.SaysX fa fn ts tf ex w h (frY h.get? n) := by
  obtain ⟨K, hK⟩ : ∃ K, K = frY h.get? n := ⟨_, rfl⟩
  have e1 : He.obsT fa fn ts K = He.valT fn ts w := by rw [hK]; exact congrArg (fun z : He.AlX => z.1) e
  have e2 : (ex K && He.tabsB h.get? tf K) = true := by rw [hK]; exact congrArg (fun z : He.AlX => z.2) e
  obtain ⟨h1, h2⟩ := Bool.and_eq_true_iff.mp e2
  have key : ∀ p ∈ tf, PySem.W.codeHdIn K (He.cT K p).1 (He.cT K p).2 = true ∧ ∃ o, h.get? (He.cT K p).2 = some o ∧ He.emptyTab o = true := fun p hp => by
    have z := List.all_eq_true.mp h2 p hp
    obtain ⟨h3, h4⟩ := Bool.and_eq_true_iff.mp z
    refine ⟨h3, ?_⟩
    split at h4
    · rename_i o q
      exact ⟨o, q, h4⟩
    · cases h4
  rw [← hK]
  refine ⟨e1, h1, fun p hp => (key p hp).1, fun p hp => ?_, fun p hp => ?_⟩
  · obtain ⟨_, o, q, z⟩ := key p hp
    have y := He.frT_none (as := asY h.get? n) q z
    rw [hK] at y ⊢
    exact y
  · obtain ⟨_, o, q, z⟩ := key p hp
    rw [q, He.emptyTab_eq z]
def hookY (n : Nat) (fa : List He.Fa) (fn : List He.DefD) (ts : List He.Tab) (tf : List He.Defn) (ex : PySem.W.Frag → Bool) : PySem.W.Hook where
  α := He.AlX
  obs := fun s => obsY n fa fn ts tf ex s.heap.get?
  val := fun w => He.valX fn ts w
  says := (He.hookX n fa fn ts tf ex).says
  of := fun _ _ e => ⟨_, He.frT_in, saysY_of e⟩
  keeps := (He.hookX n fa fn ts tf ex).keeps
theorem obsY_eq {n : Nat} {fa : List He.Fa} {fn : List He.DefD} {ts : List He.Tab} {tf : List He.Defn} {ex : PySem.W.Frag → Bool} {g : Addr → Option Obj} {s : Shared} (h : ∀ a, g a = s.heap.get? a) : obsY n fa fn ts tf ex g = (hookY n fa fn ts tf ex).obs s := by
  obtain rfl : g = s.heap.get? := funext h
  rfl
end DL

namespace DL
open PySem PySem.Spec PyProof.Rows L2
set_option autoImplicit true

section
variable {prog : Program} {w : World} {A : Around} {E : Value → Shared → Prop} {s : Shared}
end

theorem five {P : Addr → Prop} {z TI TO i1 i2 : Addr} (p1 : P z) (p2 : P TI) (p3 : P TO) (p4 : P i1) (p5 : P i2) : ∀ c ∈ [z, TI, TO, i1, i2], P c :=
  List.forall_mem_cons.mpr ⟨p1, List.forall_mem_cons.mpr ⟨p2, List.forall_mem_cons.mpr ⟨p3, List.forall_mem_cons.mpr ⟨p4, List.forall_mem_cons.mpr ⟨p5, fun _ q => nomatch q⟩⟩⟩⟩⟩
section
variable {X : Cx} {a b : Expr} {p pos tpos kpos cp : Pos} {elts : List Expr} {kk ck : Nat} {ta tb : DTE}
end

end DL

namespace DL
open PySem PySem.Spec PyProof.Rows L2
set_option autoImplicit true
structure Cls0 where
  ex : Value → Option Bool
  nm : Option Nat
  ts : Addr → Value → Option Addr → TS
def Cls0.run (c : Cls0) (D : Ends) (a : Addr) (cls : Value) (d : Option Addr) (σ : L2.St) (H : Hp) : Prop := match c.nm with
  | some i => c.ts a cls d { nx := fun σ2 H2 => D.nx (σ2.set i none) H2, rt := D.rt, bk := fun σ2 H2 => D.bk (σ2.set i none) H2, ct := fun σ2 H2 => D.ct (σ2.set i none) H2 } (σ.set i (some (.ref a))) H
  | none => c.ts a cls d D σ H
section
variable {X : Cx} {pins : List (Addr × Obj)} {a : Addr} {B : Heap} {sI s' : Shared} {σ' : L2.St} {H' : Hp} {cls : Value} {d : Option Addr} {g : Heap}
end
structure DCl where
  ns : List Str
  nm : Option Nat
  ts : Addr → DExc → DTS
def DCl.run (c : DCl) (D : DEnds) (a : Addr) (y : DExc) (σ : DSt) (h : MH) : Prop := match c.nm with
  | some i => c.ts a y (clrN i D) (σ.set i (some (.own a))) h
  | none => c.ts a y D σ h
section
variable {X : Cx} {Γ : GI} {kt : Str → Str → Option Bool} {tb : DXS → DTS} {Eo : DXS}
end
section
variable {X : Cx} {x1 x2 x3 x4 x5 : Str} {c1 c2 c3 c4 c5 : Value} {p1 p2 p3 p4 p5 pt : Pos} {kt' : Nat}
end
end DL

namespace DL
open PySem PySem.Spec PyProof.Rows L2
set_option autoImplicit true

def isI (p : Bool) (h : Heap) (a l : Addr) (i : Nat) : Prop := match p with
  | true => h.IsTupleIter a l i
  | false => h.IsListIter a l i
theorem isI.at {p : Bool} {h h' : Heap} {a l : Addr} {i : Nat} (x : isI p h a l i) (e : ∀ o, h.get? a = some o → h'.get? a = some o) : isI p h' a l i := by
  cases p with
  | true => exact Heap.IsTupleIter.at x e
  | false => exact Heap.IsListIter.at x e
section
variable {prog : Program} {w : World} {A : Around} {E : Value → Shared → Prop} {s : Shared} {p q : Bool}
end

section
variable {X : Cx} {a b : Expr} {p pos tpos kpos cp : Pos} {elts : List Expr} {kk ck : Nat} {ta tb : DTE}
end
section
variable {X : Cx} {a b c e : Expr} {p pos p2 tpos kpos cp : Pos} {kk ck : Nat} {ta tb tc te : DTE} {elts : List Expr}
end
section
variable {σ : DSt} {h : MH} {i1 i2 : Nat} {ta tb te : DTE} {tt : DTT} {vs : List Nat} {Q : DK} {QS : List SV → MH → Prop}
end
end DL

namespace DL
open PySem PySem.Spec PyProof.Rows L2
set_option autoImplicit true

/-- as the library's SetTR, to seventy-five things -/
structure SetB (P : Program) (w : World) (h : Heap) (a : Addr) (L : List (Addr × List Int)) (es : Array (Int × Value)) (ep : Nat) (t : SetTable) : Prop where
  ob : ∃ o, h.get? a = some o ∧ o.ExactSet ∧ o.data = .set es ep t
  rows : es.toList = rowsOf P w L
  tab : TabOk t (L.map fun p => thash P w p.2)
  nd : (L.map (·.2)).Nodup
  tup : ∀ p ∈ L, IsT P w h p.2 p.1
  plain : t.plain = true
  led : w.params.followText "set-order" = true ∨ t.led = true
  room : L.length * 5 < t.mask * 3
  few : L.length < 76
section
variable {P : Program} {w : World} {A : Around} {E : Value → Shared → Prop} {s s' : Shared} {h h' h0 : Heap} {a S : Addr} {L ks : List (Addr × List Int)} {es : Array (Int × Value)} {ep i : Nat} {t : SetTable} {p : Addr × List Int}
theorem SetB.of (R : SetTR P w h a L es ep t) : SetB P w h a L es ep t := ⟨R.ob, R.rows, R.tab, R.nd, R.tup, R.plain, R.led, R.room, Nat.lt_trans R.few (by decide)⟩
theorem SetB.size (R : SetB P w h a L es ep t) : es.size = L.length := by
  have z := congrArg List.length R.rows
  rw [Array.length_toList] at z
  exact z.trans (List.length_map _)
end
section
variable {P : Program} {w : World} {A : Around} {E : Value → Shared → Prop} {s : Shared}
end
section
variable {X : Cx} {a : Expr} {ta : TE}
end
section
variable {X : Cx} {Γ : GI} {a : Expr} {pos p2 : Pos}
end
end DL

namespace DL
open PySem PySem.Spec PyProof.Rows L2
set_option autoImplicit true

/-- a tuple of texts at an address -/
def tupAtB (K : PySem.W.Frag) (a : Addr) (zs : List Str) : Bool := match K.lookup a with
  | some ⟨.type c, _, .seq its _, _⟩ => decide (c = "tuple") && (decide (its.size ≤ sizeLine) && He.relAll (zs.map V.str) its.toList)
  | _ => false
def tabDB (K : PySem.W.Frag) (a : Addr) (tb : List (Str × List Str)) : Bool := tb.all fun q => match PySem.W.nsIn K a q.1 with
  | some (some (.ref b)) => tupAtB K b q.2
  | _ => false
section
variable {fa : Str → Addr} {T k : Str} {h : MH} {Q : DK} {σ : DSt}
end
section
variable {X : Cx} {x T : Str} {pos : Pos} {o e f : Expr}
end
section
variable {X : Cx} {o e f : Expr} {T : Str} {apos cpos : Pos} {te tk td : DTE}
end
section
variable {P : Program} {w : World} {K : PySem.W.Frag} {mg : Str → Option Value} {base : Heap} {T : List (Addr × Str)} {k : Nat}
end
end DL

namespace DL.G
open PySem PySem.Spec PyProof.Rows L2
set_option autoImplicit true
def top (i : Nat) : Stmt := PySem.Challenge.pw_besideindex_k86_texts_refused.main.body.getD i (.Pass ⟨0, 0, 0, 0⟩)
def ktl : List (Str × Str × Bool) := [("NoText", "StoreError", true), ("NoText", "LackError", false), ("NoText", "NoPaper", false), ("NoText", "NoRow", false), ("NoText", "NoUnique", false), ("NoText", "NoUse", false), ("NoText", "NoWrite", false), ("NoText", "Ring", false), ("NoText", "Waits", false), ("NoText", "NoText", true), ("NoText", "ValueError", true)]
def xtl : List (Str × Str) := [("NoText", "row"), ("NoText", "word")]
def kt : Str → Str → Option Bool := ktL ktl
def xt : Str → Str → Bool := xtL xtl
abbrev s_is_number : Stmt := top 14
abbrev s_is_word : Stmt := top 15
abbrev s_is_figure : Stmt := top 20
abbrev s_is_pace : Stmt := top 21
abbrev s_is_columns : Stmt := top 22
abbrev s_are_values : Stmt := top 23
abbrev s_is_truth : Stmt := top 24
abbrev s_is_of : Stmt := top 26
abbrev s_figures_in : Stmt := top 30
abbrev s_number_in : Stmt := top 31
abbrev s_values_in : Stmt := top 32
abbrev s_truth_in : Stmt := top 33
abbrev s_plain_in : Stmt := top 34
abbrev s_thing_in : Stmt := top 36
abbrev s_things_in : Stmt := top 37
abbrev s_line_in : Stmt := top 38
abbrev s_read_row : Stmt := top 39
abbrev s_ask_columns : Stmt := top 40
abbrev s_read_log : Stmt := top 41
abbrev s__law_feed : Stmt := top 43
abbrev s__law_draw : Stmt := top 44
abbrev s__law_values : Stmt := top 45
abbrev s__law_deed : Stmt := top 46
abbrev s__law_opening : Stmt := top 47
abbrev s__law_line : Stmt := top 48
abbrev s__law_number_in : Stmt := top 49
abbrev s__law_is_word : Stmt := top 50
abbrev s__law_stands : Stmt := top 51
abbrev s__law_forms : Stmt := top 52
abbrev s__law_amiss : Stmt := top 53
abbrev s__law_spoilt : Stmt := top 54
abbrev s__law_told : Stmt := top 55
abbrev s__law_log_amiss : Stmt := top 56
abbrev s__law_lines_spoilt : Stmt := top 57
abbrev s_law : Stmt := top 58
def d_is_number : He.DefD := ⟨("is_number", none), "is_number", "is_number", defArgs s_is_number, defBody s_is_number, defScope s_is_number, [], []⟩
def d_is_word : He.DefD := ⟨("is_word", none), "is_word", "is_word", defArgs s_is_word, defBody s_is_word, defScope s_is_word, [], []⟩
def d_is_figure : He.DefD := ⟨("is_figure", none), "is_figure", "is_figure", defArgs s_is_figure, defBody s_is_figure, defScope s_is_figure, [], []⟩
def d_is_pace : He.DefD := ⟨("is_pace", none), "is_pace", "is_pace", defArgs s_is_pace, defBody s_is_pace, defScope s_is_pace, [], []⟩
def d_is_columns : He.DefD := ⟨("is_columns", none), "is_columns", "is_columns", defArgs s_is_columns, defBody s_is_columns, defScope s_is_columns, [], []⟩
def d_are_values : He.DefD := ⟨("are_values", none), "are_values", "are_values", defArgs s_are_values, defBody s_are_values, defScope s_are_values, [], []⟩
def d_is_truth : He.DefD := ⟨("is_truth", none), "is_truth", "is_truth", defArgs s_is_truth, defBody s_is_truth, defScope s_is_truth, [], []⟩
def d_is_of : He.DefD := ⟨("is_of", none), "is_of", "is_of", defArgs s_is_of, defBody s_is_of, defScope s_is_of, [], []⟩
def d_figures_in : He.DefD := ⟨("figures_in", none), "figures_in", "figures_in", defArgs s_figures_in, defBody s_figures_in, defScope s_figures_in, [], []⟩
def d_number_in : He.DefD := ⟨("number_in", none), "number_in", "number_in", defArgs s_number_in, defBody s_number_in, defScope s_number_in, [], []⟩
def d_values_in : He.DefD := ⟨("values_in", none), "values_in", "values_in", defArgs s_values_in, defBody s_values_in, defScope s_values_in, [], []⟩
def d_truth_in : He.DefD := ⟨("truth_in", none), "truth_in", "truth_in", defArgs s_truth_in, defBody s_truth_in, defScope s_truth_in, [], []⟩
def d_plain_in : He.DefD := ⟨("plain_in", none), "plain_in", "plain_in", defArgs s_plain_in, defBody s_plain_in, defScope s_plain_in, [], []⟩
def d_thing_in : He.DefD := ⟨("thing_in", none), "thing_in", "thing_in", defArgs s_thing_in, defBody s_thing_in, defScope s_thing_in, [], []⟩
def d_things_in : He.DefD := ⟨("things_in", none), "things_in", "things_in", defArgs s_things_in, defBody s_things_in, defScope s_things_in, [], []⟩
def d_line_in : He.DefD := ⟨("line_in", none), "line_in", "line_in", defArgs s_line_in, defBody s_line_in, defScope s_line_in, [], []⟩
def d_read_row : He.DefD := ⟨("read_row", none), "read_row", "read_row", defArgs s_read_row, defBody s_read_row, defScope s_read_row, [], []⟩
def d_ask_columns : He.DefD := ⟨("ask_columns", none), "ask_columns", "ask_columns", defArgs s_ask_columns, defBody s_ask_columns, defScope s_ask_columns, [], []⟩
def d_read_log : He.DefD := ⟨("read_log", none), "read_log", "read_log", defArgs s_read_log, defBody s_read_log, defScope s_read_log, [], []⟩
def d__law_feed : He.DefD := ⟨("_law_feed", none), "_law_feed", "_law_feed", defArgs s__law_feed, defBody s__law_feed, defScope s__law_feed, [], []⟩
def d__law_draw : He.DefD := ⟨("_law_draw", none), "_law_draw", "_law_draw", defArgs s__law_draw, defBody s__law_draw, defScope s__law_draw, [], []⟩
def d__law_values : He.DefD := ⟨("_law_values", none), "_law_values", "_law_values", defArgs s__law_values, defBody s__law_values, defScope s__law_values, [], []⟩
def d__law_deed : He.DefD := ⟨("_law_deed", none), "_law_deed", "_law_deed", defArgs s__law_deed, defBody s__law_deed, defScope s__law_deed, [], []⟩
def d__law_opening : He.DefD := ⟨("_law_opening", none), "_law_opening", "_law_opening", defArgs s__law_opening, defBody s__law_opening, defScope s__law_opening, [], []⟩
def d__law_line : He.DefD := ⟨("_law_line", none), "_law_line", "_law_line", defArgs s__law_line, defBody s__law_line, defScope s__law_line, [], []⟩
def d__law_number_in : He.DefD := ⟨("_law_number_in", none), "_law_number_in", "_law_number_in", defArgs s__law_number_in, defBody s__law_number_in, defScope s__law_number_in, [], []⟩
def d__law_is_word : He.DefD := ⟨("_law_is_word", none), "_law_is_word", "_law_is_word", defArgs s__law_is_word, defBody s__law_is_word, defScope s__law_is_word, [], []⟩
def d__law_stands : He.DefD := ⟨("_law_stands", none), "_law_stands", "_law_stands", defArgs s__law_stands, defBody s__law_stands, defScope s__law_stands, [], []⟩
def d__law_forms : He.DefD := ⟨("_law_forms", none), "_law_forms", "_law_forms", defArgs s__law_forms, defBody s__law_forms, defScope s__law_forms, [], []⟩
def d__law_amiss : He.DefD := ⟨("_law_amiss", none), "_law_amiss", "_law_amiss", defArgs s__law_amiss, defBody s__law_amiss, defScope s__law_amiss, [], []⟩
def d__law_spoilt : He.DefD := ⟨("_law_spoilt", none), "_law_spoilt", "_law_spoilt", defArgs s__law_spoilt, defBody s__law_spoilt, defScope s__law_spoilt, [], []⟩
def d__law_told : He.DefD := ⟨("_law_told", none), "_law_told", "_law_told", defArgs s__law_told, defBody s__law_told, defScope s__law_told, [], []⟩
def d__law_log_amiss : He.DefD := ⟨("_law_log_amiss", none), "_law_log_amiss", "_law_log_amiss", defArgs s__law_log_amiss, defBody s__law_log_amiss, defScope s__law_log_amiss, [], []⟩
def d__law_lines_spoilt : He.DefD := ⟨("_law_lines_spoilt", none), "_law_lines_spoilt", "_law_lines_spoilt", defArgs s__law_lines_spoilt, defBody s__law_lines_spoilt, defScope s__law_lines_spoilt, [], []⟩
def d_law : He.DefD := ⟨("law", none), "law", "law", defArgs s_law, defBody s_law, defScope s_law, [], []⟩
abbrev si_NoText : Stmt := inClass (top 9) 0
def di_NoText : He.DefD := ⟨("NoText", some "__init__"), "__init__", "NoText.__init__", defArgs si_NoText, defBody si_NoText, defScope si_NoText, [], []⟩
def exB (K : PySem.W.Frag) : Bool := errB K "NoText" "StoreError" ["row", "word"] [.type "ValueError", .type "Exception", .type "BaseException", .type "object"] "ValueError.__new__" "ValueError.__init__" && (kitLB K ktl xtl && (He.tupB K "FIRST" ((["columns"] : List Str).map He.Dv.str) && (He.valsB K (He.ga K "KINDS") [("writer", He.Dv.glo "is_figure"), ("figure", He.Dv.glo "is_figure"), ("number", He.Dv.glo "is_number"), ("pace", He.Dv.glo "is_pace"), ("columns", He.Dv.glo "is_columns"), ("values", He.Dv.glo "are_values"), ("truth", He.Dv.glo "is_truth"), ("name", He.Dv.glo "is_word")] && (He.valsB K (He.ga K "READERS") [("values", He.Dv.glo "values_in"), ("truth", He.Dv.glo "truth_in"), ("name", He.Dv.glo "plain_in")] && (tabDB K (He.ga K "FORMS") [("begin", []), ("put", ["writer", "values"]), ("turn", ["writer", "number", "values"]), ("strike", ["writer", "number"]), ("done", ["writer"]), ("gone", ["writer"]), ("build", ["name", "figure", "truth"]), ("step", ["name", "pace"]), ("leave", ["name"]), ("drop", ["name"]), ("clean", []), ("crash", [])])))))
def fns : List He.DefD := [d_is_number, d_is_word, d_is_figure, d_is_pace, d_is_columns, d_are_values, d_is_truth, d_is_of, d_figures_in, d_number_in, d_values_in, d_truth_in, d_plain_in, d_thing_in, d_things_in, d_line_in, d_read_row, d_ask_columns, d_read_log, d__law_feed, d__law_draw, d__law_values, d__law_deed, d__law_opening, d__law_line, d__law_number_in, d__law_is_word, d__law_stands, d__law_forms, d__law_amiss, d__law_spoilt, d__law_told, d__law_log_amiss, d__law_lines_spoilt, d_law, di_NoText]
def fas : List He.Fa := [.glo "is_number", .glo "is_word", .glo "is_figure", .glo "is_pace", .glo "is_columns", .glo "are_values", .glo "is_truth", .glo "is_of", .glo "figures_in", .glo "number_in", .glo "values_in", .glo "truth_in", .glo "plain_in", .glo "thing_in", .glo "things_in", .glo "line_in", .glo "read_row", .glo "ask_columns", .glo "read_log", .glo "_law_feed", .glo "_law_draw", .glo "_law_values", .glo "_law_deed", .glo "_law_opening", .glo "_law_line", .glo "_law_number_in", .glo "_law_is_word", .glo "_law_stands", .glo "_law_forms", .glo "_law_amiss", .glo "_law_spoilt", .glo "_law_told", .glo "_law_log_amiss", .glo "_law_lines_spoilt", .glo "law", .free "isinstance", .free "int", .free "bool", .free "all", .free "str", .free "len", .free "tuple", .free "enumerate", .free "zip", .free "range", .free "ValueError", .free "repr", .free "list", .glo "StoreError", .glo "NoText", .glo "Waits", .glo "Ring", .glo "NoWrite", .glo "NoUse", .glo "NoUnique", .glo "NoRow", .glo "NoPaper", .glo "LackError", .str "LETTERS" "abcdefghijklmnopqrstuvwxyz", .int "MOST_LETTERS" 8, .int "MOST_COLUMNS" 3, .int "MOST_FIGURES" 9, .str "FIGURES" "0123456789", .glo "FIRST", .glo "KINDS", .glo "READERS", .glo "FORMS"]
def tbs : List He.Tab := [((fun K => He.ga K "KINDS"), ["writer", "figure", "number", "pace", "columns", "values", "truth", "name"]), ((fun K => He.ga K "READERS"), ["values", "truth", "name"]), ((fun K => He.ga K "FORMS"), ["begin", "put", "turn", "strike", "done", "gone", "build", "step", "leave", "drop", "clean", "crash"])]
def tfs : List He.Defn := []
def nm : He.Defn → Str := fun p => p.1 ++ ".<locals>.<lambda>"
abbrev R : PySem.W.OpenRow := PySem.W.OpenLaw.row PySem.Challenge.rw_besideindex_k86_texts_refused
abbrev hk : PySem.W.Hook := DL.hookY 4 fas fns tbs tfs exB
def ob (s : PySem.W.SharedT) : He.AlX := DL.obsY 4 fas fns tbs tfs exB (HandSHeadRun.getT s)
theorem ob_eq (s : PySem.W.SharedT) : ob s = hk.obs s.abs := DL.obsY_eq (HandSHeadRun.getT_eq s)
def loose : List Str := (["StoreError", "LackError", "NoPaper", "NoWrite", "NoUnique", "NoUse", "Waits", "Ring", "NoText", "NoRow", "LETTERS", "MOST_LETTERS", "is_number", "is_word", "MOST_COLUMNS", "FORMS", "FIRST", "is_figure", "is_pace", "is_columns", "are_values", "is_truth", "KINDS", "is_of", "FIGURES", "MOST_FIGURES", "figures_in", "number_in", "values_in", "truth_in"] : List Str) ++ (["plain_in", "READERS", "thing_in", "things_in", "line_in", "read_row", "ask_columns", "read_log", "_law_feed", "_law_draw", "_law_values", "_law_deed", "_law_opening", "_law_line", "_law_number_in", "_law_is_word", "_law_stands", "_law_forms", "_law_amiss", "_law_spoilt", "_law_told", "_law_log_amiss", "_law_lines_spoilt"] : List Str)
theorem run0 (w : World) : HandSHeadRun.RunEq R (PySem.W.view R.prog [58]) hk ob 8000 loose (w.withFollow "special-get-raises" false) := by
  intro os
  kernel_rfl
theorem run1 (w : World) : HandSHeadRun.RunEq R (PySem.W.view R.prog [58]) hk ob 8000 loose (w.withFollow "special-get-raises" true) := by
  intro os
  kernel_rfl
theorem run (w : World) : HandSHeadRun.RunEq R (PySem.W.view R.prog [58]) hk ob 8000 loose w := PySem.W.byRow2 "special-get-raises" (P := fun w => HandSHeadRun.RunEq R (PySem.W.view R.prog [58]) hk ob 8000 loose w) run0 run1 w
end DL.G
namespace DL
open PySem PySem.Spec PyProof.Rows L2
set_option autoImplicit true

def TD (a : Addr) (L : List QRow) : HO := .ext (TDp a L)
section
variable {X : Cx} {pins : List (Addr × Obj)} {σ : L2.St} {H : Hp} {s : Shared} {a b : Addr} {L : List QRow} {k : List Int} {A : Around} {E : Value → Shared → Prop}
end
/-- no code object is such a dict -/
theorem td_code {c a : Addr} {q : Str} {L : List QRow} : LamX.CodeO c q ≠ TD a L := fun z => by
  have z2 : (fun h : Heap => ∃ (oc : Obj) (vs : Array Value) (t : Tok), h.get? c = some oc ∧ oc.data = .fields vs ∧ vs[1]? = some (.str q t)) = TDp a L := HO.ext.inj z
  obtain ⟨o, ho⟩ : ∃ o : Obj, o = { cls := .none, data := .fields #[.none, .str q 0] } := ⟨_, rfl⟩
  obtain ⟨h, eh, ea⟩ : ∃ h : Heap, h.get? c = some o ∧ h.get? a = some o := ⟨{ objs := Array.replicate (c + a + 1) o }, by
    subst ho
    refine ⟨?_, ?_⟩
    · have z1 : c < c + a + 1 := Nat.lt_succ_of_le (Nat.le_add_right c a)
      simp [Heap.get?, z1]
    · have z1 : a < c + a + 1 := Nat.lt_succ_of_le (Nat.le_add_left a c)
      simp [Heap.get?, z1]⟩
  have y : TDp a L h := by
    rw [← z2]
    exact ⟨o, _, 0, eh, by rw [ho], rfl⟩
  obtain ⟨_, _, xs, _, _, o', es, ep, e1, _, e3, _⟩ := y
  rw [ea] at e1
  cases e1
  rw [ho] at e3
  cases e3
end DL
namespace DL
open PySem PySem.Spec PyProof.Rows L2
set_option autoImplicit true

def mput (h : MH) (a : Addr) (o : MO) : MH := fun b => if b = a then some o else h b
theorem mput_same {h : MH} {a : Addr} {o : MO} : mput h a o a = some o := if_pos rfl
theorem mput_ne {h : MH} {a b : Addr} {o : MO} (n : b ≠ a) : mput h a o b = h b := if_neg n
abbrev DTE := DSt → MH → DK → Prop
abbrev DTT := DSt → MH → (Bool → MH → Prop) → Prop
abbrev DTA := DSt → MH → (List SV → MH → Prop) → Prop
/-- a fresh list's items -/
abbrev DTF := DSt → MH → (List PyData → MH → Prop) → Prop

theorem fz_sub {x : List Addr} {H : Hp} {h : MH} : Sub (Fzx x H h) H := fun _ _ e => (Fz.to e).1
section
variable {K : PySem.W.Frag} {H H' : Hp}
theorem dps_len : ∀ {ds : List PyData} {vs : List V}, DpAll K H vs ds → vs.length = ds.length
  | [], _, h => by cases h; rfl
  | _ :: _, _, h => by
    cases h with
    | cons _ h2 => simp [dps_len h2]
theorem dps_get : ∀ {ds : List PyData} {vs : List V} {i : Nat} {d : PyData}, DpAll K H vs ds → ds[i]? = some d → ∃ v, vs[i]? = some v ∧ Dp K H v d
  | [], _, _, _, _, e => by simp at e
  | x :: ds, _, 0, d, h, e => by
    cases h with
    | cons h1 _ => simp at e; subst e; exact ⟨_, rfl, h1⟩
  | x :: ds, _, i + 1, d, h, e => by
    cases h with
    | cons _ h2 =>
      obtain ⟨v, q1, q2⟩ := dps_get (i := i) (d := d) h2 (by simpa using e)
      exact ⟨v, by simpa using q1, q2⟩
theorem dps_getv : ∀ {ds : List PyData} {vs : List V} {i : Nat} {v : V}, DpAll K H vs ds → vs[i]? = some v → ∃ d, ds[i]? = some d ∧ Dp K H v d
  | [], _, _, _, h, e => by cases h; simp at e
  | x :: ds, _, 0, v, h, e => by
    cases h with
    | cons h1 _ => simp at e; subst e; exact ⟨_, rfl, h1⟩
  | x :: ds, _, i + 1, v, h, e => by
    cases h with
    | cons _ h2 =>
      obtain ⟨d, q1, q2⟩ := dps_getv (i := i) (v := v) h2 (by simpa using e)
      exact ⟨d, by simpa using q1, q2⟩
theorem dps_app : ∀ {ds es : List PyData} {vs ws : List V}, DpAll K H vs ds → DpAll K H ws es → DpAll K H (vs ++ ws) (ds ++ es)
  | [], _, _, _, h, r => by cases h; exact r
  | _ :: _, _, _, _, h, r => by
    cases h with
    | cons h1 h2 => exact .cons h1 (dps_app h2 r)
theorem dps_take : ∀ {ds : List PyData} {vs : List V} (n : Nat), DpAll K H vs ds → DpAll K H (vs.take n) (ds.take n)
  | _, _, 0, _ => by simpa using (DpAll.nil : DpAll K H [] [])
  | [], _, n + 1, h => by cases h; simpa using (DpAll.nil : DpAll K H [] [])
  | _ :: _, _, n + 1, h => by
    cases h with
    | cons h1 h2 => exact .cons h1 (dps_take n h2)
theorem dps_drop : ∀ {ds : List PyData} {vs : List V} (n : Nat), DpAll K H vs ds → DpAll K H (vs.drop n) (ds.drop n)
  | _, _, 0, h => h
  | [], _, n + 1, h => by cases h; simpa using (DpAll.nil : DpAll K H [] [])
  | _ :: _, _, n + 1, h => by
    cases h with
    | cons _ h2 => exact dps_drop n h2
theorem dps_set : ∀ {ds : List PyData} {vs : List V} {v : V} {d : PyData} (i : Nat), Dp K H v d → DpAll K H vs ds → DpAll K H (vs.set i v) (ds.set i d)
  | [], _, _, _, _, _, h => by cases h; exact .nil
  | _ :: _, _, _, _, 0, r, h => by
    cases h with
    | cons _ h2 => exact .cons r h2
  | _ :: _, _, _, _, i + 1, r, h => by
    cases h with
    | cons h1 h2 => exact .cons h1 (dps_set i r h2)
theorem dps_rep {ds : List PyData} {vs : List V} (h : DpAll K H vs ds) : ∀ n : Nat, DpAll K H (List.replicate n vs).flatten (List.replicate n ds).flatten
  | 0 => .nil
  | n + 1 => by
    rw [List.replicate_succ, List.replicate_succ, List.flatten_cons, List.flatten_cons]
    exact dps_app h (dps_rep h n)
theorem dps_ints : ∀ ns : List Int, DpAll K H (ns.map V.int) (ns.map PyData.int)
  | [] => .nil
  | n :: ns => .cons (.int n) (dps_ints ns)
end

theorem rvf_up {K : PySem.W.Frag} {F F' : Hp} (e : Sub F F') : ∀ {x : SV} {v : V}, RVF K F x v → RVF K F' x v
  | .d d, v, r => dp_up e d v r
  | .own _, _, r => r
theorem paired_imp {α β : Type} {R S : α → β → Prop} (f : ∀ a b, R a b → S a b) : ∀ {l : List α} {m : List β}, Paired R l m → Paired S l m
  | _, _, .nil => .nil
  | _, _, .cons h t => .cons (f _ _ h) (paired_imp f t)
theorem rof_up {K : PySem.W.Frag} {F F' : Hp} (e : Sub F F') {o : MO} {u : HO} (r : ROF K F o u) : ROF K F' o u := by
  cases o <;> cases u <;> first | exact r.elim | exact ⟨r.1, r.2.1, paired_imp (fun _ _ z => ⟨z.1, rvf_up e z.2⟩) r.2.2⟩ | exact dps_up e _ _ r | exact paired_imp (fun _ _ => rvf_up e) r | exact paired_imp (fun _ _ z => ⟨z.1, rvf_up e z.2⟩) r | exact ⟨r.1, paired_imp (fun _ _ z => ⟨z.1, rvf_up e z.2⟩) r.2⟩ | exact ⟨r.choose, r.choose_spec.1, paired_imp (fun _ _ z => ⟨z.1, sqT_up e z.2.1, dp_up e _ _ z.2.2⟩) r.choose_spec.2⟩ | exact ⟨r.1, r.2.choose, r.2.choose_spec.1, dps_up e _ _ r.2.choose_spec.2⟩
/-- what no table is -/
def plainO : HO → Bool
  | .lst _ => true
  | .tup _ => true
  | .dK _ => true
  | .dT _ => true
  | .frz _ _ => true
  | .ins _ _ _ => true
  | _ => false
def plainP (u : HO) : Prop := plainO u = true ∨ ∃ a L, u = TD a L
theorem rof_plain {K : PySem.W.Frag} {F : Hp} {o : MO} {u : HO} (r : ROF K F o u) : plainP u := by
  cases o <;> cases u <;> first | exact .inl rfl | exact r.elim | exact .inr ⟨_, r.choose, congrArg HO.ext r.choose_spec.1⟩
theorem not_plain_code {c : Addr} {q : Str} : ¬ plainP (LamX.CodeO c q) := fun z => z.elim (fun y => Bool.noConfusion y) fun ⟨_, _, y⟩ => td_code y
theorem not_plain_tbl {ps : Array Value} : ¬ plainP (.tbl ps) := fun z => z.elim (fun y => Bool.noConfusion y) fun ⟨_, _, y⟩ => HO.noConfusion y
theorem ro_of {K : PySem.W.Frag} {Γ : GI} {H : Hp} {h : MH} {a : Addr} {o : MO} {u : HO} (e : H a = some u) (r : ROF K (Fz Γ H h) o u) : RO K Γ H h a o := by
  cases o with
  | lst xs =>
    cases u <;> first | exact r.elim | exact ⟨_, e, r⟩
  | _ => exact ⟨u, e, r⟩
theorem ro_up {K : PySem.W.Frag} {Γ Γ' : GI} {H H' : Hp} {h h' : MH} {a : Addr} {o : MO} (e : ∀ u, H a = some u → H' a = some u) (s : Sub (Fz Γ H h) (Fz Γ' H' h')) (r : RO K Γ H h a o) : RO K Γ' H' h' a o := by
  obtain ⟨u, e1, e2⟩ := ro_at r
  exact ro_of (e u e1) (rof_up s e2)
/-- tables stay where all but lists stay -/
theorem tabs_but {T : List (Addr × Str)} {H H' : Hp} (t : LamX.Tabs T H) (e : ∀ b o, H b = some o → ¬ plainP o → H' b = some o) : LamX.Tabs T H' := fun p hp => by
  obtain ⟨ps, h1, h2, h3⟩ := t p hp
  refine ⟨ps, e _ _ h1 not_plain_tbl, h2, fun pos cv hc => ?_⟩
  obtain ⟨c, e1, e2⟩ := h3 pos cv hc
  exact ⟨c, e1, e _ _ e2 not_plain_code⟩
theorem tabs_upd {T : List (Addr × Str)} {H : Hp} {p : Addr} {o : HO} (t : LamX.Tabs T H) (hp : H p = none ∨ ∃ u, H p = some u ∧ plainP u) : LamX.Tabs T (upd H p o) := tabs_but t fun b u e n => by
  rw [upd_ne]
  · exact e
  · intro z
    subst z
    rcases hp with q | ⟨w, q, y⟩
    · rw [q] at e; cases e
    · rw [q] at e; cases e; exact n y
theorem RM.notx {K : PySem.W.Frag} {H : Hp} {h : MH} (r : RM K Γ H h) {a : Addr} (n : H a = none) : a ∉ Γ.x := fun z => by
  obtain ⟨_, xs, e⟩ := r.nx a z
  rw [n] at e; cases e
theorem RM.ownx {K : PySem.W.Frag} {H : Hp} {h : MH} (r : RM K Γ H h) {a : Addr} {o : MO} (n : h a = some o) : a ∉ Γ.x := fun z => by
  have q := (r.nx a z).1
  rw [n] at q; cases q
theorem RM.isl {K : PySem.W.Frag} {H : Hp} {h : MH} (r : RM K Γ H h) {a : Addr} {o : MO} (n : h a = some o) : ∃ u, H a = some u ∧ plainP u := by
  obtain ⟨u, e, q⟩ := ro_at (r.ob a o n)
  exact ⟨u, e, rof_plain q⟩
/-- a new tracked thing -/
theorem PX.new {H : Hp} {h : MH} {p : Addr} {o : HO} (n : H p = none) (nx : p ∉ Γ.x) : PX Γ H h (upd H p o) h := by
  refine ⟨fun a u e => ?_, fun a ha => upd_ne fun z => nx (z ▸ ha)⟩
  obtain ⟨e1, e2, e3, e4⟩ := Fz.to e
  exact Fz.ofH (by rw [upd_ne (ne_of_none e1 n)]; exact e1) e2 e3 e4
theorem RV.up {K : PySem.W.Frag} {H H' : Hp} {h h' : MH} {x : SV} {v : V} (p : PX Γ H h H' h') (r : RV K Γ H h x v) : RV K Γ H' h' x v := by
  cases x with
  | d x => exact dp_up p.ex x v r
  | own a => exact r
theorem RM.nxk {K : PySem.W.Frag} {H H' : Hp} {h h' : MH} (r : RM K Γ H h) (k : ∀ a, a ∈ Γ.x → H' a = H a) (s : ∀ a, a ∈ Γ.x → h' a = h a) : ∀ a, a ∈ Γ.x → h' a = none ∧ ∃ xs, H' a = some (.lst xs) := fun a ha => by
  rw [k a ha, s a ha]
  exact r.nx a ha
theorem RM.new {K : PySem.W.Frag} {H : Hp} {h : MH} {p : Addr} {o : HO} (n : H p = none) (r : RM K Γ H h) : RM K Γ (upd H p o) h := by
  have px : PX Γ H h (upd H p o) h := PX.new n (r.notx n)
  refine ⟨fun a m e => ?_, Γ.st px r.g, r.nxk px.kx fun _ _ => rfl, tabs_upd r.tb (.inl n)⟩
  exact ro_up (fun u e1 => by rw [upd_ne (ne_of_none e1 n)]; exact e1) px.ex (r.ob a m e)
theorem RM.px {K : PySem.W.Frag} {H : Hp} {h : MH} {p : Addr} {o : HO} (n : H p = none) (r : RM K Γ H h) : PX Γ H h (upd H p o) h := PX.new n (r.notx n)
/-- a new list is one's own -/
theorem own_px {H : Hp} {h : MH} {p : Addr} {o : HO} {m : MO} (n : H p = none) (hn : h p = none) (nx : p ∉ Γ.x) : PX Γ H h (upd H p o) (mput h p m) := by
  refine ⟨fun a u e => ?_, fun a ha => upd_ne fun z => nx (z ▸ ha)⟩
  obtain ⟨e1, e2, e3, e4⟩ := Fz.to e
  have ne := ne_of_none e1 n
  exact Fz.ofH (by rw [upd_ne ne]; exact e1) (by rw [mput_ne ne]; exact e2) e3 e4
theorem own_rmG {K : PySem.W.Frag} {H : Hp} {h : MH} {p : Addr} {u : HO} {o : MO} (n : H p = none) (r : RM K Γ H h) (hd : ROF K (Fz Γ H h) o u) : RM K Γ (upd H p u) (mput h p o) := by
  have nx := r.notx n
  have px : PX Γ H h (upd H p u) (mput h p o) := own_px n (r.tracked n) nx
  refine ⟨fun a m e => ?_, Γ.st px r.g, r.nxk px.kx fun a ha => mput_ne fun z => nx (by rw [← z]; exact ha), tabs_upd r.tb (.inl n)⟩
  by_cases q : a = p
  · subst q
    rw [mput_same] at e; cases e
    exact ro_of upd_same (rof_up px.ex hd)
  · rw [mput_ne q] at e
    exact ro_up (fun u e1 => by rw [upd_ne q]; exact e1) px.ex (r.ob a m e)
theorem own_rm {K : PySem.W.Frag} {H : Hp} {h : MH} {p : Addr} {vs : List V} {ds : List PyData} (n : H p = none) (r : RM K Γ H h) (hd : DpAll K (Fz Γ H h) vs ds) : RM K Γ (upd H p (.lst vs)) (mput h p (.lst ds)) := own_rmG n r hd
/-- one's own list is written -/
theorem put_px {K : PySem.W.Frag} {H : Hp} {h : MH} {p : Addr} {o : HO} {m m' : MO} (hp : h p = some m) (r : RM K Γ H h) (nm : hid (some m) = true := by rfl) : PX Γ H h (upd H p o) (mput h p m') := by
  refine ⟨fun a u e => ?_, fun a ha => upd_ne fun z => r.ownx hp (z ▸ ha)⟩
  obtain ⟨e1, e2, e3, e4⟩ := Fz.to e
  have ne : a ≠ p := fun q => by rw [q, hp, nm] at e2; cases e2
  exact Fz.ofH (by rw [upd_ne ne]; exact e1) (by rw [mput_ne ne]; exact e2) e3 e4
theorem put_rmG {K : PySem.W.Frag} {H : Hp} {h : MH} {p : Addr} {u : HO} {m o : MO} (hp : h p = some m) (r : RM K Γ H h) (hd : ROF K (Fz Γ H h) o u) (nm : hid (some m) = true := by rfl) : RM K Γ (upd H p u) (mput h p o) := by
  have px : PX Γ H h (upd H p u) (mput h p o) := put_px hp r nm
  have nx := r.ownx hp
  refine ⟨fun a m' e => ?_, Γ.st px r.g, r.nxk px.kx fun a ha => mput_ne fun z => nx (by rw [← z]; exact ha), tabs_upd r.tb (.inr (r.isl hp))⟩
  by_cases q : a = p
  · subst q
    rw [mput_same] at e; cases e
    exact ro_of upd_same (rof_up px.ex hd)
  · rw [mput_ne q] at e
    exact ro_up (fun u e1 => by rw [upd_ne q]; exact e1) px.ex (r.ob a m' e)
theorem put_rm {K : PySem.W.Frag} {H : Hp} {h : MH} {p : Addr} {vs : List V} {m : MO} {ds : List PyData} (hp : h p = some m) (r : RM K Γ H h) (hd : DpAll K (Fz Γ H h) vs ds) (nm : hid (some m) = true := by rfl) : RM K Γ (upd H p (.lst vs)) (mput h p (.lst ds)) := put_rmG hp r hd nm
/-- what is one's own may be let go -/
theorem drop_px {H : Hp} {h h' : MH} (s : ∀ a o, h' a = some o → h a = some o) : PX Γ H h H h' := by
  refine ⟨fun a u e => ?_, fun _ _ => rfl⟩
  obtain ⟨e1, e2, e3, e4⟩ := Fz.to e
  refine Fz.ofH e1 ?_ e3 e4
  cases q : h' a with
  | none => rfl
  | some o => rw [← s a o q]; exact e2
theorem drop_rm {K : PySem.W.Frag} {H : Hp} {h h' : MH} (s : ∀ a o, h' a = some o → h a = some o) (r : RM K Γ H h) : RM K Γ H h' := by
  have sn : ∀ a, h a = none → h' a = none := fun a n => by
    cases q : h' a with
    | none => rfl
    | some o => rw [s a o q] at n; cases n
  have px : PX Γ H h H h' := drop_px s
  refine ⟨fun a m e => ?_, Γ.st px r.g, fun a ha => ⟨sn a (r.nx a ha).1, (r.nx a ha).2⟩, r.tb⟩
  exact ro_up (fun _ q => q) px.ex (r.ob a m (s a m e))

section
variable {K : PySem.W.Frag} {H H' : Hp} {h h' : MH} {σd : DSt} {σ : L2.St}
theorem RSt.up (p : PX Γ H h H' h') (r : RSt K Γ H h σd σ) : RSt K Γ H' h' σd σ := ⟨r.1, fun i x e => let ⟨v, e1, e2⟩ := r.2 i x e; ⟨v, e1, e2.up p⟩⟩
theorem RSt.clr {i : Nat} (r : RSt K Γ H h σd σ) (o : Option V) : RSt K Γ H h (σd.set i none) (σ.set i o) := by
  refine ⟨by simp [r.1], fun j y e => ?_⟩
  by_cases q : i = j
  · subst q
    by_cases l : i < σd.length
    · rw [List.getElem?_set_self l] at e; cases e
    · rw [List.getElem?_eq_none (by simpa using l)] at e; cases e
  · rw [List.getElem?_set_ne q] at e
    obtain ⟨w, e1, e2⟩ := r.2 j y e
    exact ⟨w, by rw [List.getElem?_set_ne q]; exact e1, e2⟩
end

def lift {α β : Type} (K : PySem.W.Frag) (Γ : GI) (R : Hp → MH → α → β → Prop) (t : DSt → MH → (α → MH → Prop) → Prop) : L2.St → Hp → (β → Hp → Prop) → Prop :=
  fun σ H Q => ∃ σd h, RSt K Γ H h σd σ ∧ RM K Γ H h ∧ t σd h fun x h' => ∀ v H', PX Γ H h H' h' → R H' h' x v → RM K Γ H' h' → Q v H'
def Mono {α : Type} (t : DSt → MH → (α → MH → Prop) → Prop) : Prop := ∀ σ h (Q Q' : α → MH → Prop), (∀ x h', Q x h' → Q' x h') → t σ h Q → t σ h Q'
theorem lift_mk {α β : Type} {K : PySem.W.Frag} {R : Hp → MH → α → β → Prop} {t : DSt → MH → (α → MH → Prop) → Prop} {σd : DSt} {h : MH} {σ : L2.St} {H : Hp} {C : α → MH → Prop} {P : β → Hp → Prop} (m : Mono t)
    (rs : RSt K Γ H h σd σ) (rm : RM K Γ H h) (ht : t σd h C) (k : ∀ x h1 v H1, PX Γ H h H1 h1 → RSt K Γ H1 h1 σd σ → R H1 h1 x v → RM K Γ H1 h1 → C x h1 → P v H1) : lift K Γ R t σ H P :=
  ⟨σd, h, rs, rm, m _ _ _ _ (fun x h1 c v H1 px r1 rm1 => k x h1 v H1 px (rs.up px) r1 rm1 c) ht⟩
abbrev liftV (K : PySem.W.Frag) (Γ : GI) (t : DTE) : TE := lift K Γ (RV K Γ) t
abbrev liftB (K : PySem.W.Frag) (Γ : GI) (t : DTT) : TT := lift K Γ (fun _ _ a b => a = b) t
abbrev RVs (K : PySem.W.Frag) (Γ : GI) (H : Hp) (h : MH) : List SV → List V → Prop := Paired (RV K Γ H h)
abbrev liftA (K : PySem.W.Frag) (Γ : GI) (t : DTA) : TA := lift K Γ (RVs K Γ) t
theorem rvs_up {K : PySem.W.Frag} {H H' : Hp} {h h' : MH} (p : PX Γ H h H' h') : ∀ {xs : List SV} {vs : List V}, RVs K Γ H h xs vs → RVs K Γ H' h' xs vs
  | _, _, .nil => .nil
  | _, _, .cons r t => .cons (r.up p) (rvs_up p t)

structure DE (X : Cx) (Γ : GI) (e : Expr) (t : DTE) : Prop where
  mono : Mono t
  pe : PE X e (liftV X.K Γ t)
structure DT (X : Cx) (Γ : GI) (e : Expr) (t : DTT) : Prop where
  mono : Mono t
  pt : PT X e (liftB X.K Γ t)
structure DA (X : Cx) (Γ : GI) (es : List Expr) (t : DTA) : Prop where
  mono : Mono t
  pa : PA X es (liftA X.K Γ t)
theorem pe_imp {X : Cx} {e : Expr} {t t' : TE} (p : PE X e t) (k : ∀ σ H Q, t' σ H Q → t σ H Q) : PE X e t' := ⟨fun pins s σ H Q I w => p.run pins s σ H Q I (k σ H Q w)⟩
theorem pt_imp {X : Cx} {e : Expr} {t t' : TT} (p : PT X e t) (k : ∀ σ H Q, t' σ H Q → t σ H Q) : PT X e t' := ⟨fun pins s σ H Q I w => p.run pins s σ H Q I (k σ H Q w)⟩
theorem pw_imp {X : Cx} {e : Expr} {t t' : TT} (p : PW X e t) (k : ∀ σ H Q, t' σ H Q → t σ H Q) : PW X e t' := ⟨fun whole pins s σ H Q I w => p.run whole pins s σ H Q I (k σ H Q w)⟩
theorem pa_imp {X : Cx} {e : List Expr} {t t' : TA} (p : PA X e t) (k : ∀ σ H Q, t' σ H Q → t σ H Q) : PA X e t' := ⟨fun pos pins s σ H Q I w => p.run pos pins s σ H Q I (k σ H Q w)⟩
theorem ps_imp {X : Cx} {e : Stmt} {t t' : TS} (p : PS X e t) (k : ∀ D σ H, t' D σ H → t D σ H) : PS X e t' := ⟨fun pins s σ H D I w => p.run pins s σ H D I (k D σ H w)⟩
theorem pss_imp {X : Cx} {e : List Stmt} {t t' : TS} (p : PSs X e t) (k : ∀ D σ H, t' D σ H → t D σ H) : PSs X e t' := ⟨fun pins s σ H D I w => p.run pins s σ H D I (k D σ H w)⟩

section
variable {X : Cx} {a b c e : Expr} {pos : Pos}
def slot (σ : DSt) (i : Nat) : Option SV := match σ[i]? with
  | some o => o
  | none => none
def dVar (i : Nat) : DTE := fun σ h Q => match slot σ i with
  | some x => Q x h
  | none => False
theorem mono_var {i : Nat} : Mono (dVar i) := fun σ h Q Q' k w => by
  unfold dVar at w ⊢
  cases e : slot σ i with
  | none => rw [e] at w; exact w
  | some x => rw [e] at w; exact k _ _ w
theorem de_name {i : Nat} {x : Str} (p : PE X (.Name x pos) (tVar i)) : DE X Γ (.Name x pos) (dVar i) := by
  refine ⟨mono_var, pe_imp p fun σ H Q ⟨σd, h, rs, rm, w⟩ => ?_⟩
  unfold dVar at w
  have hs : ∀ y, slot σd i = some y → σd[i]? = some (some y) := fun y hy => by
    unfold slot at hy
    cases q : σd[i]? with
    | none => rw [q] at hy; cases hy
    | some o => rw [q] at hy; subst hy; rfl
  cases e : slot σd i with
  | none => rw [e] at w; exact w.elim
  | some y =>
    rw [e] at w
    obtain ⟨v, e1, e2⟩ := rs.2 i y (hs y e)
    exact ⟨v, e1, w v H PX.refl e2 rm⟩
theorem dv (i : Nat) {x : Str} (hN : X.N[i]? = some x := by rfl) (hv : Vis X.env.scope x := by first | exact Or.inl rfl | exact Or.inr (Or.inl rfl) | exact Or.inr (Or.inr rfl)) (hd : (x == ("__debug__" : Str)) = false := by decide)
    (hcd : (x == ("__classdict__" : Str)) = false := by decide) : DE X Γ (.Name x pos) (dVar i) := de_name (pe_var hN hv hd hcd)
def dC (x : PyData) : DTE := fun _ h Q => Q (.d x) h
theorem mono_c {x : PyData} : Mono (dC x) := fun _ _ _ _ k w => k _ _ w
theorem de_c {v : V} {x : PyData} (p : PE X e (tC v)) (r : ∀ H, Dp X.K H v x) : DE X Γ e (dC x) := ⟨mono_c, pe_imp p fun σ H Q ⟨σd, h, rs, rm, w⟩ => w v H PX.refl (r _) rm⟩
theorem de_int {i j} : DE X Γ (.Constant (.int i) j pos) (dC (.int i)) := de_c pe_int fun _ => .int i
theorem de_bl {b j} : DE X Γ (.Constant (.bool b) j pos) (dC (.bool b)) := de_c pe_bl fun _ => .bl b
theorem de_non {j} : DE X Γ (.Constant .none j pos) (dC .none) := de_c pe_non fun _ => .non
theorem de_str {x j} : DE X Γ (.Constant (.str x) j pos) (dC (.str x)) := de_c pe_str fun _ => .str x
end
end DL

namespace DL
open PySem PySem.Spec PyProof.Rows L2
set_option autoImplicit true

abbrev DR2 := SV → SV → MH → DK → Prop
structure LR2 (K : PySem.W.Frag) (Γ : GI) (r' : DR2) (r : R2) : Prop where
  mono : ∀ x y h (Q Q' : DK), (∀ z h', Q z h' → Q' z h') → r' x y h Q → r' x y h Q'
  run : ∀ x y v u H h (C : DK) (Q : VK), RV K Γ H h x v → RV K Γ H h y u → RM K Γ H h → r' x y h C → (∀ z h' w H', PX Γ H h H' h' → RV K Γ H' h' z w → RM K Γ H' h' → C z h' → Q w H') → r v u H Q
abbrev DRA := List SV → MH → DK → Prop
structure LRA (K : PySem.W.Frag) (Γ : GI) (r' : DRA) (r : List V → Hp → VK → Prop) : Prop where
  mono : ∀ xs h (Q Q' : DK), (∀ z h', Q z h' → Q' z h') → r' xs h Q → r' xs h Q'
  run : ∀ xs vs H h (C : DK) (Q : VK), RVs K Γ H h xs vs → RM K Γ H h → r' xs h C → (∀ z h' w H', PX Γ H h H' h' → RV K Γ H' h' z w → RM K Γ H' h' → C z h' → Q w H') → r vs H Q
/-- a call that gives a fresh list -/
abbrev DRF := List SV → MH → (List PyData → MH → Prop) → Prop
structure LRF (K : PySem.W.Frag) (Γ : GI) (r' : DRF) (r : List V → Hp → VK → Prop) : Prop where
  mono : ∀ xs h (Q Q' : List PyData → MH → Prop), (∀ z h', Q z h' → Q' z h') → r' xs h Q → r' xs h Q'
  run : ∀ xs vs H h (C : List PyData → MH → Prop) (Q : VK), RVs K Γ H h xs vs → RM K Γ H h → r' xs h C →
    (∀ ds h' ws H' p, PX Γ H h H' h' → DpAll K (Fz Γ H' h') ws ds → RM K Γ H' h' → C ds h' → H' p = none → Q (.ref p) (upd H' p (.lst ws))) → r vs H Q

/-- an expression that gives a fresh list -/
def liftF (K : PySem.W.Frag) (Γ : GI) (t : DTF) : TE := fun σ H Q => ∃ σd h, RSt K Γ H h σd σ ∧ RM K Γ H h ∧ t σd h fun ds h' => ∀ ws H' p, PX Γ H h H' h' → DpAll K (Fz Γ H' h') ws ds → RM K Γ H' h' → H' p = none → Q (.ref p) (upd H' p (.lst ws))
structure DF (X : Cx) (Γ : GI) (e : Expr) (t : DTF) : Prop where
  mono : Mono t
  pe : PE X e (liftF X.K Γ t)
def dL (t : DTF) : DTE := fun σ h Q => t σ h fun ds h' => Q (.d (.list ds)) h'
theorem mono_L {t : DTF} (m : Mono t) : Mono (dL t) := fun σ h Q Q' k w => m σ h _ _ (fun ds h' q => k _ _ q) w
/-- a new list, not one's own -/
theorem new_list {K : PySem.W.Frag} {H : Hp} {h : MH} {p : Addr} {ws : List V} {ds : List PyData} (n : H p = none) (rm : RM K Γ H h) (hd : DpAll K (Fz Γ H h) ws ds) :
    PX Γ H h (upd H p (.lst ws)) h ∧ RM K Γ (upd H p (.lst ws)) h ∧ RV K Γ (upd H p (.lst ws)) h (.d (.list ds)) (.ref p) :=
  ⟨rm.px n, RM.new n rm, Dp.lst (SqL.of (Fz.of upd_same (rm.tracked n) (rm.notx n))) (dps_up (rm.px n).ex _ _ hd)⟩
theorem new_tup {K : PySem.W.Frag} {H : Hp} {h : MH} {p : Addr} {ws : List V} {ds : List PyData} (n : H p = none) (rm : RM K Γ H h) (hd : DpAll K (Fz Γ H h) ws ds) :
    PX Γ H h (upd H p (.tup ws)) h ∧ RM K Γ (upd H p (.tup ws)) h ∧ RV K Γ (upd H p (.tup ws)) h (.d (.tuple ds)) (.ref p) :=
  ⟨rm.px n, RM.new n rm, Dp.tup (SqT.of (Fz.of upd_same (rm.tracked n) (rm.notx n))) (dps_up (rm.px n).ex _ _ hd)⟩
theorem DF.toDE {X : Cx} {e : Expr} {t : DTF} (f : DF X Γ e t) : DE X Γ e (dL t) :=
  ⟨mono_L f.mono, pe_imp f.pe fun σ H Q ⟨σd, h, rs, rm, w⟩ => ⟨σd, h, rs, rm, f.mono _ _ _ _ (fun ds h' q ws H' p px hd rm' n => by
    obtain ⟨p1, r1, v1⟩ := new_list n rm' hd
    exact q _ _ (px.trans p1) v1 r1) w⟩⟩

section
variable {X : Cx} {a b c e : Expr} {pos : Pos} {ta tb tc : DTE}
def dOp (r : DR2) (ta tb : DTE) : DTE := fun σ h Q => ta σ h fun x h1 => tb σ h1 fun y h2 => r x y h2 Q
theorem mono_op {r : DR2} (m : ∀ x y h (Q Q' : DK), (∀ z h', Q z h' → Q' z h') → r x y h Q → r x y h Q') (ma : Mono ta) (mb : Mono tb) : Mono (dOp r ta tb) :=
  fun σ h Q Q' k w => ma _ _ _ _ (fun x h1 w1 => mb _ _ _ _ (fun y h2 w2 => m _ _ _ _ _ k w2) w1) w
theorem op_lift {K : PySem.W.Frag} {r' : DR2} {r : R2} (l : LR2 K Γ r' r) (ma : Mono ta) (mb : Mono tb) : ∀ σ H Q, liftV K Γ (dOp r' ta tb) σ H Q → tOp r (liftV K Γ ta) (liftV K Γ tb) σ H Q := fun σ H Q ⟨σd, h, rs, rm, w⟩ =>
  lift_mk ma rs rm w fun x h1 v H1 px rs1 rv rm1 w1 => lift_mk mb rs1 rm1 w1 fun y h2 u H2 px2 rs2 ru rm2 w2 =>
    l.run x y v u H2 h2 _ Q (rv.up px2) ru rm2 w2 fun z h3 w' H3 px3 rz rm3 q => q w' H3 ((px.trans px2).trans px3) rz rm3
theorem de_bin {op : Operator} {r' : DR2} {r : R2} (ho : OpR X (binaryOp op) r) (l : LR2 X.K Γ r' r) (ha : DE X Γ a ta) (hb : DE X Γ b tb) : DE X Γ (.BinOp a op b pos) (dOp r' ta tb) :=
  ⟨mono_op l.mono ha.mono hb.mono, pe_imp (pe_op ho ha.pe hb.pe) (op_lift l ha.mono hb.mono)⟩
theorem de_cmp {op : CmpOp} {r' : DR2} {r : R2} (ho : OpR X (compareOp op) r) (l : LR2 X.K Γ r' r) (ha : DE X Γ a ta) (hb : DE X Γ b tb) (hm : behindInMarks op b = false := by first | exact nomark _ | rfl) : DE X Γ (.Compare a [op] [b] pos) (dOp r' ta tb) :=
  ⟨mono_op l.mono ha.mono hb.mono, pe_imp (pe_cmpR ho ha.pe hb.pe hm) (op_lift l ha.mono hb.mono)⟩
def dTest (t : DTE) : DTT := fun σ h Q => t σ h fun x h1 => match x with
  | .d (.bool k) => Q k h1
  | _ => False
theorem mono_test {t : DTE} (m : Mono t) : Mono (dTest t) := fun σ h Q Q' k w => m _ _ _ _ (fun x h1 w1 => by
  cases x with
  | own a => exact w1
  | d x => cases x <;> first | exact w1 | exact k _ _ w1) w
theorem test_lift {K : PySem.W.Frag} {t : DTE} (m : Mono t) : ∀ σ H Q, liftB K Γ (dTest t) σ H Q → tTest (liftV K Γ t) σ H Q := fun σ H Q ⟨σd, h, rs, rm, w⟩ =>
  lift_mk m rs rm w fun x h1 v H1 px rs1 rv rm1 w1 => by
    cases x with
    | own a => exact w1.elim
    | d x => cases x with
      | bool k => cases rv; exact ⟨k, rfl, w1 k H1 px rfl rm1⟩
      | _ => exact w1.elim
theorem dt_cmp {op : CmpOp} {r' : DR2} {r : R2} (ho : OpR X (compareOp op) r) (l : LR2 X.K Γ r' r) (ha : DE X Γ a ta) (hb : DE X Γ b tb) (hm : behindInMarks op b = false := by first | exact nomark _ | rfl) : DT X Γ (.Compare a [op] [b] pos) (dTest (dOp r' ta tb)) :=
  ⟨mono_test (mono_op l.mono ha.mono hb.mono), pt_imp (pt_cmpR ho ha.pe hb.pe hm) fun σ H Q w => by
    obtain ⟨σd, h, rs, rm, w⟩ := test_lift (mono_op l.mono ha.mono hb.mono) σ H Q w
    exact op_lift l ha.mono hb.mono σ H _ ⟨σd, h, rs, rm, w⟩⟩
/-- a bool as a test -/
theorem dt_val {t : DTE} (h : DE X Γ e t) (he : ∀ whole, isTrue e X.env whole = (do let v ← whole; standAt e.pos; holding [v] (truthy v)) := by intro _; rfl) : DT X Γ e (dTest t) :=
  ⟨mono_test h.mono, pt_imp (pt_val h.pe he) fun σ H Q w => test_lift h.mono σ H Q w⟩

def dAnd (t u : DTT) : DTT := fun σ h Q => t σ h fun c h1 => if c = true then u σ h1 Q else Q false h1
def dOr (t u : DTT) : DTT := fun σ h Q => t σ h fun c h1 => if c = true then Q true h1 else u σ h1 Q
def dNot (t : DTT) : DTT := fun σ h Q => t σ h fun c h1 => Q (!c) h1
/-- .. as values of truths -/
def dAndV (ta tb : DTE) : DTE := fun σ h Q => ta σ h fun x h1 => match x with
  | .d (.bool c) => if c = true then tb σ h1 Q else Q (.d (.bool false)) h1
  | _ => False
def dOrV (ta tb : DTE) : DTE := fun σ h Q => ta σ h fun x h1 => match x with
  | .d (.bool c) => if c = true then Q (.d (.bool true)) h1 else tb σ h1 Q
  | _ => False
def dNotV (ta : DTE) : DTE := fun σ h Q => ta σ h fun x h1 => match x with
  | .d (.bool c) => Q (.d (.bool (!c))) h1
  | _ => False
def dIf (t : DTT) (ta tb : DTE) : DTE := fun σ h Q => t σ h fun c h1 => if c = true then ta σ h1 Q else tb σ h1 Q
theorem mono_and {t u : DTT} (mt : Mono t) (mu : Mono u) : Mono (dAnd t u) := fun σ h Q Q' k w => mt _ _ _ _ (fun c h1 w1 => by
  cases c with
  | true => exact mu _ _ _ _ k w1
  | false => exact k _ _ w1) w
theorem mono_or {t u : DTT} (mt : Mono t) (mu : Mono u) : Mono (dOr t u) := fun σ h Q Q' k w => mt _ _ _ _ (fun c h1 w1 => by
  cases c with
  | true => exact k _ _ w1
  | false => exact mu _ _ _ _ k w1) w
theorem mono_not {t : DTT} (mt : Mono t) : Mono (dNot t) := fun σ h Q Q' k w => mt _ _ _ _ (fun c h1 w1 => k _ _ w1) w
theorem mono_if {t : DTT} (mt : Mono t) (ma : Mono ta) (mb : Mono tb) : Mono (dIf t ta tb) := fun σ h Q Q' k w => mt _ _ _ _ (fun c h1 w1 => by
  cases c with
  | true => exact ma _ _ _ _ k w1
  | false => exact mb _ _ _ _ k w1) w
theorem mono_andV (ma : Mono ta) (mb : Mono tb) : Mono (dAndV ta tb) := fun σ h Q Q' k w => ma _ _ _ _ (fun x h1 w1 => by
  cases x with
  | own a => exact w1
  | d x => cases x with
    | bool c => cases c with
      | true => exact mb _ _ _ _ k w1
      | false => exact k _ _ w1
    | _ => exact w1) w
theorem mono_orV (ma : Mono ta) (mb : Mono tb) : Mono (dOrV ta tb) := fun σ h Q Q' k w => ma _ _ _ _ (fun x h1 w1 => by
  cases x with
  | own a => exact w1
  | d x => cases x with
    | bool c => cases c with
      | true => exact k _ _ w1
      | false => exact mb _ _ _ _ k w1
    | _ => exact w1) w
theorem mono_notV (ma : Mono ta) : Mono (dNotV ta) := fun σ h Q Q' k w => ma _ _ _ _ (fun x h1 w1 => by
  cases x with
  | own a => exact w1
  | d x => cases x with
    | bool c => exact k _ _ w1
    | _ => exact w1) w
structure DW (X : Cx) (Γ : GI) (e : Expr) (t : DTT) : Prop where
  mono : Mono t
  pw : PW X e (liftB X.K Γ t)
theorem DW.dt {t : DTT} (h : DW X Γ e t) : DT X Γ e t := ⟨h.mono, h.pw.pt⟩
variable {t u : DTT} {rest : List Expr}
theorem dw_and1 (ha : DT X Γ a t) : DW X Γ (.BoolOp .And [a] pos) t := ⟨ha.mono, pw_and1 ha.pt⟩
theorem dw_or1 (ha : DT X Γ a t) : DW X Γ (.BoolOp .Or [a] pos) t := ⟨ha.mono, pw_or1 ha.pt⟩
theorem dw_and (ha : DT X Γ a t) (hb : DW X Γ (.BoolOp .And (b :: rest) pos) u) : DW X Γ (.BoolOp .And (a :: b :: rest) pos) (dAnd t u) :=
  ⟨mono_and ha.mono hb.mono, pw_imp (pw_and ha.pt hb.pw) fun σ H Q ⟨σd, h, rs, rm, w⟩ => lift_mk ha.mono rs rm w fun c h1 k H1 px rs1 rv rm1 w1 => by
    subst rv
    cases c with
    | true => exact iteT (lift_mk hb.mono rs1 rm1 w1 fun c2 h2 k2 H2 px2 _ rv2 rm2 w2 => by subst rv2; exact w2 _ _ (px.trans px2) rfl rm2)
    | false => exact iteF (w1 _ _ px rfl rm1)⟩
theorem dw_or (ha : DT X Γ a t) (hb : DW X Γ (.BoolOp .Or (b :: rest) pos) u) : DW X Γ (.BoolOp .Or (a :: b :: rest) pos) (dOr t u) :=
  ⟨mono_or ha.mono hb.mono, pw_imp (pw_or ha.pt hb.pw) fun σ H Q ⟨σd, h, rs, rm, w⟩ => lift_mk ha.mono rs rm w fun c h1 k H1 px rs1 rv rm1 w1 => by
    subst rv
    cases c with
    | true => exact iteT (w1 _ _ px rfl rm1)
    | false => exact iteF (lift_mk hb.mono rs1 rm1 w1 fun c2 h2 k2 H2 px2 _ rv2 rm2 w2 => by subst rv2; exact w2 _ _ (px.trans px2) rfl rm2)⟩
theorem dt_not (ha : DT X Γ a t) : DT X Γ (.UnaryOp .Not a pos) (dNot t) :=
  ⟨mono_not ha.mono, pt_imp (pt_not ha.pt) fun σ H Q ⟨σd, h, rs, rm, w⟩ => lift_mk ha.mono rs rm w fun c h1 k H1 px rs1 rv rm1 w1 => by subst rv; exact w1 _ _ px rfl rm1⟩
theorem de_ifExp {c : Expr} (hc : DT X Γ c t) (ha : DE X Γ a ta) (hb : DE X Γ b tb) : DE X Γ (.IfExp c a b pos) (dIf t ta tb) :=
  ⟨mono_if hc.mono ha.mono hb.mono, pe_imp (pe_ifExp hc.pt ha.pe hb.pe) fun σ H Q ⟨σd, h, rs, rm, w⟩ => lift_mk hc.mono rs rm w fun c h1 k H1 px rs1 rv rm1 w1 => by
    subst rv
    cases c with
    | true => exact iteT (lift_mk ha.mono rs1 rm1 w1 fun x h2 v H2 px2 _ rv2 rm2 w2 => w2 _ _ (px.trans px2) rv2 rm2)
    | false => exact iteF (lift_mk hb.mono rs1 rm1 w1 fun x h2 v H2 px2 _ rv2 rm2 w2 => w2 _ _ (px.trans px2) rv2 rm2)⟩
theorem de_one {op} {t : DTE} (h : DE X Γ a t) : DE X Γ (.BoolOp op [a] pos) t := ⟨h.mono, pe_one h.pe⟩
theorem de_and (ha : DE X Γ a ta) (hb : DE X Γ (.BoolOp .And (b :: rest) pos) tb) : DE X Γ (.BoolOp .And (a :: b :: rest) pos) (dAndV ta tb) :=
  ⟨mono_andV ha.mono hb.mono, pe_imp (pe_and ha.pe hb.pe) fun σ H Q ⟨σd, h, rs, rm, w⟩ => lift_mk ha.mono rs rm w fun x h1 v H1 px rs1 rv rm1 w1 => by
    cases x with
    | own a => exact w1.elim
    | d x => cases x with
      | bool c =>
        cases rv
        refine ⟨c, rfl, ?_⟩
        cases c with
        | true => exact iteT (lift_mk hb.mono rs1 rm1 w1 fun x h2 v H2 px2 _ rv2 rm2 w2 => w2 _ _ (px.trans px2) rv2 rm2)
        | false => exact iteF (w1 _ _ px (Dp.bl false) rm1)
      | _ => exact w1.elim⟩
theorem de_or (ha : DE X Γ a ta) (hb : DE X Γ (.BoolOp .Or (b :: rest) pos) tb) : DE X Γ (.BoolOp .Or (a :: b :: rest) pos) (dOrV ta tb) :=
  ⟨mono_orV ha.mono hb.mono, pe_imp (pe_or ha.pe hb.pe) fun σ H Q ⟨σd, h, rs, rm, w⟩ => lift_mk ha.mono rs rm w fun x h1 v H1 px rs1 rv rm1 w1 => by
    cases x with
    | own a => exact w1.elim
    | d x => cases x with
      | bool c =>
        cases rv
        refine ⟨c, rfl, ?_⟩
        cases c with
        | true => exact iteT (w1 _ _ px (Dp.bl true) rm1)
        | false => exact iteF (lift_mk hb.mono rs1 rm1 w1 fun x h2 v H2 px2 _ rv2 rm2 w2 => w2 _ _ (px.trans px2) rv2 rm2)
      | _ => exact w1.elim⟩
theorem de_not (ha : DE X Γ a ta) : DE X Γ (.UnaryOp .Not a pos) (dNotV ta) :=
  ⟨mono_notV ha.mono, pe_imp (pe_not ha.pe) fun σ H Q ⟨σd, h, rs, rm, w⟩ => lift_mk ha.mono rs rm w fun x h1 v H1 px rs1 rv rm1 w1 => by
    cases x with
    | own a => exact w1.elim
    | d x => cases x with
      | bool c =>
        cases rv
        exact ⟨c, rfl, w1 _ _ px (Dp.bl (!c)) rm1⟩
      | _ => exact w1.elim⟩
end

def asL (h : MH) : SV → Option (List PyData)
  | .d (.list xs) => some xs
  | .own a => match h a with
    | some (.lst xs) => some xs
    | _ => none
  | _ => none
def asT : SV → Option (List PyData)
  | .d (.tuple xs) => some xs
  | _ => none
theorem asL_ok {K : PySem.W.Frag} {H : Hp} {h : MH} {x : SV} {v : V} {xs : List PyData} (rv : RV K Γ H h x v) (rm : RM K Γ H h) (e : asL h x = some xs) : ∃ a vs, v = .ref a ∧ SqL K H a vs ∧ DpAll K (Fz Γ H h) vs xs := by
  cases x with
  | own a =>
    cases q : h a with
    | none => simp only [asL, q] at e; cases e
    | some m =>
      cases m with
      | lst ys =>
        simp only [asL, q] at e; cases e
        obtain ⟨vs, e1, e2⟩ := rm.ob a _ q
        exact ⟨a, vs, rv, SqL.of e1, e2⟩
      | _ => simp only [asL, q] at e; cases e
  | d x =>
    cases x with
    | list ys =>
      cases e
      have rv' : Dp K (Fz Γ H h) v (.list xs) := rv
      cases rv' with
      | lst h1 h2 => exact ⟨_, _, rfl, sqL_up fz_sub h1, h2⟩
    | _ => cases e
theorem asT_ok {K : PySem.W.Frag} {H : Hp} {h : MH} {x : SV} {v : V} {xs : List PyData} (rv : RV K Γ H h x v) (e : asT x = some xs) : ∃ a vs, v = .ref a ∧ SqT K H a vs ∧ DpAll K (Fz Γ H h) vs xs := by
  cases x with
  | own a => cases e
  | d x =>
    cases x with
    | tuple ys =>
      cases e
      have rv' : Dp K (Fz Γ H h) v (.tuple xs) := rv
      cases rv' with
      | tup h1 h2 => exact ⟨_, _, rfl, sqT_up fz_sub h1, h2⟩
    | _ => cases e
def asQ (h : MH) (x : SV) : Option (List PyData) := match asL h x with
  | some xs => some xs
  | none => asT x
theorem asQ_ok {K : PySem.W.Frag} {H : Hp} {h : MH} {x : SV} {v : V} {xs : List PyData} (rv : RV K Γ H h x v) (rm : RM K Γ H h) (e : asQ h x = some xs) : ∃ a vs, v = .ref a ∧ (SqL K H a vs ∨ SqT K H a vs) ∧ DpAll K (Fz Γ H h) vs xs := by
  unfold asQ at e
  cases q : asL h x with
  | some ys =>
    rw [q] at e; cases e
    obtain ⟨a, vs, h1, h2, h3⟩ := asL_ok rv rm q
    exact ⟨a, vs, h1, .inl h2, h3⟩
  | none =>
    rw [q] at e
    obtain ⟨a, vs, h1, h2, h3⟩ := asT_ok rv e
    exact ⟨a, vs, h1, .inr h2, h3⟩

def mdrop (h : MH) (a : Addr) : MH := fun b => if b = a then none else h b
def fz1 (x : SV) (h : MH) : Option (PyData × MH) := match x with
  | .d d => some (d, h)
  | .own a => match h a with
    | some (.lst xs) => some (.list xs, mdrop h a)
    | _ => none
theorem mdrop_px {H : Hp} {h : MH} {a : Addr} : PX Γ H h H (mdrop h a) := drop_px fun b o e => by
  unfold mdrop at e
  split at e
  · cases e
  · exact e
theorem mdrop_rm {K : PySem.W.Frag} {H : Hp} {h : MH} {a : Addr} (r : RM K Γ H h) : RM K Γ H (mdrop h a) := drop_rm (fun b o e => by
  unfold mdrop at e
  split at e
  · cases e
  · exact e) r
theorem fz1_ok {K : PySem.W.Frag} {H : Hp} {h h' : MH} {x : SV} {v : V} {d : PyData} (rv : RV K Γ H h x v) (rm : RM K Γ H h) (e : fz1 x h = some (d, h')) : PX Γ H h H h' ∧ RM K Γ H h' ∧ Dp K (Fz Γ H h') v d := by
  cases x with
  | d y => cases e; exact ⟨PX.refl, rm, rv⟩
  | own a =>
    unfold fz1 at e
    cases q : h a with
    | none => simp only [q] at e; cases e
    | some m =>
      cases m with
      | lst xs =>
        simp only [q] at e
        cases e
        obtain ⟨vs, e1, e2⟩ := rm.ob a _ q
        have rv' : v = .ref a := rv
        subst rv'
        exact ⟨mdrop_px, mdrop_rm rm, Dp.lst (SqL.of (Fz.of e1 (if_pos rfl) (rm.ownx q))) (dps_up mdrop_px.ex _ _ e2)⟩
      | _ => simp only [q] at e; cases e
def fzs : List SV → MH → Option (List PyData × MH)
  | [], h => some ([], h)
  | x :: r, h => match fz1 x h with
    | some (d, h1) => match fzs r h1 with
      | some (ds, h2) => some (d :: ds, h2)
      | none => none
    | none => none
theorem fzs_ok {K : PySem.W.Frag} {H : Hp} : ∀ {xs : List SV} {vs : List V} {h h' : MH} {ds : List PyData}, RVs K Γ H h xs vs → RM K Γ H h → fzs xs h = some (ds, h') → PX Γ H h H h' ∧ RM K Γ H h' ∧ DpAll K (Fz Γ H h') vs ds
  | [], _, _, _, _, r, rm, e => by cases r; cases e; exact ⟨PX.refl, rm, .nil⟩
  | x :: r, _, h, h', ds, rr, rm, e => by
    cases rr with
    | cons r1 r2 =>
      unfold fzs at e
      cases q1 : fz1 x h with
      | none => rw [q1] at e; cases e
      | some p =>
        obtain ⟨d, h1⟩ := p
        rw [q1] at e
        simp only at e
        cases q2 : fzs r h1 with
        | none => rw [q2] at e; cases e
        | some p2 =>
          obtain ⟨ds2, h2⟩ := p2
          rw [q2] at e
          cases e
          obtain ⟨p1, rm1, d1⟩ := fz1_ok r1 rm q1
          obtain ⟨p2, rm2, d2⟩ := fzs_ok (rvs_up p1 r2) rm1 q2
          exact ⟨p1.trans p2, rm2, .cons (dp_up p2.ex _ _ d1) d2⟩

section
variable {X : Cx} {a b c e : Expr} {pos : Pos} {ta tb tc te : DTE} {t : DTA} {es : List Expr}
def dNil : DTA := fun _ h Q => Q [] h
def dCons (ta : DTE) (tr : DTA) : DTA := fun σ h Q => ta σ h fun x h1 => tr σ h1 fun xs h2 => Q (x :: xs) h2
theorem da_nil : DA X Γ [] dNil := ⟨fun _ _ _ _ k w => k _ _ w, pa_imp pa_nil fun σ H Q ⟨σd, h, rs, rm, w⟩ => w _ _ PX.refl .nil rm⟩
theorem mono_cons (ma : Mono ta) (mr : Mono t) : Mono (dCons ta t) := fun σ h Q Q' k w => ma _ _ _ _ (fun x h1 w1 => mr _ _ _ _ (fun xs h2 w2 => k _ _ w2) w1) w
theorem da_cons (ha : DE X Γ e te) (hr : DA X Γ es t) (hs : starEach (e :: es) X.env = (false, eval e X.env) :: starEach es X.env := by rfl) : DA X Γ (e :: es) (dCons te t) :=
  ⟨mono_cons ha.mono hr.mono, pa_imp (pa_cons ha.pe hr.pa hs) fun σ H Q ⟨σd, h, rs, rm, w⟩ =>
    lift_mk ha.mono rs rm w fun x h1 v H1 px rs1 rv rm1 w1 => lift_mk hr.mono rs1 rm1 w1 fun xs h2 vs H2 px2 rs2 rvs rm2 w2 =>
      w2 _ _ (px.trans px2) (.cons (rv.up px2) rvs) rm2⟩
def dTup (t : DTA) : DTE := fun σ h Q => t σ h fun xs h1 => match fzs xs h1 with
  | some (ds, h2) => ds.length ≤ sizeLine ∧ Q (.d (.tuple ds)) h2
  | none => False
def fLst (t : DTA) : DTF := fun σ h Q => t σ h fun xs h1 => match fzs xs h1 with
  | some (ds, h2) => ds.length ≤ sizeLine ∧ Q ds h2
  | none => False
theorem mono_tup (m : Mono t) : Mono (dTup t) := fun σ h Q Q' k w => m _ _ _ _ (fun xs h1 w1 => by
  cases q : fzs xs h1 with
  | none => rw [q] at w1; exact w1
  | some p => obtain ⟨ds, h2⟩ := p; rw [q] at w1; exact ⟨w1.1, k _ _ w1.2⟩) w
theorem mono_fLst (m : Mono t) : Mono (fLst t) := fun σ h Q Q' k w => m _ _ _ _ (fun xs h1 w1 => by
  cases q : fzs xs h1 with
  | none => rw [q] at w1; exact w1
  | some p => obtain ⟨ds, h2⟩ := p; rw [q] at w1; exact ⟨w1.1, k _ _ w1.2⟩) w
theorem de_tup {x1} (ha : DA X Γ es t) : DE X Γ (.Tuple es x1 pos) (dTup t) :=
  ⟨mono_tup ha.mono, pe_imp (pe_tup ha.pa) fun σ H Q ⟨σd, h, rs, rm, w⟩ => lift_mk ha.mono rs rm w fun xs h1 vs H1 px rs1 rvs rm1 w1 => by
    cases q : fzs xs h1 with
    | none => rw [q] at w1; exact w1.elim
    | some p =>
      obtain ⟨ds, h2⟩ := p
      rw [q] at w1
      obtain ⟨p1, rm2, dd⟩ := fzs_ok rvs rm1 q
      refine ⟨by rw [dps_len dd]; exact w1.1, fun p hp => ?_⟩
      obtain ⟨p2, rm3, rv3⟩ := new_tup hp rm2 dd
      exact w1.2 _ _ ((px.trans p1).trans p2) rv3 rm3⟩
theorem df_lst (ha : DA X Γ es t) : DF X Γ (.List es pos) (fLst t) :=
  ⟨mono_fLst ha.mono, pe_imp (pe_lst ha.pa) fun σ H Q ⟨σd, h, rs, rm, w⟩ => lift_mk ha.mono rs rm w fun xs h1 vs H1 px rs1 rvs rm1 w1 => by
    cases q : fzs xs h1 with
    | none => rw [q] at w1; exact w1.elim
    | some p =>
      obtain ⟨ds, h2⟩ := p
      rw [q] at w1
      obtain ⟨p1, rm2, dd⟩ := fzs_ok rvs rm1 q
      exact ⟨by rw [dps_len dd]; exact w1.1, fun p hp => w1.2 _ _ _ (px.trans p1) dd rm2 hp⟩⟩
/-- f(e, ..) of a builtin -/
def dB (r : DRA) (t : DTA) : DTE := fun σ h Q => t σ h fun xs h1 => r xs h1 Q
def fB (r : DRF) (t : DTA) : DTF := fun σ h Q => t σ h fun xs h1 => r xs h1 Q
theorem mono_B {r : DRA} (mr : ∀ xs h (Q Q' : DK), (∀ z h', Q z h' → Q' z h') → r xs h Q → r xs h Q') (m : Mono t) : Mono (dB r t) := fun σ h Q Q' k w => m _ _ _ _ (fun xs h1 w1 => mr _ _ _ _ k w1) w
theorem mono_FB {r : DRF} (mr : ∀ xs h (Q Q' : List PyData → MH → Prop), (∀ z h', Q z h' → Q' z h') → r xs h Q → r xs h Q') (m : Mono t) : Mono (fB r t) := fun σ h Q Q' k w => m _ _ _ _ (fun xs h1 w1 => mr _ _ _ _ k w1) w
theorem B_lift {K : PySem.W.Frag} {r' : DRA} {r : List V → Hp → VK → Prop} (l : LRA K Γ r' r) (m : Mono t) : ∀ σ H Q, liftV K Γ (dB r' t) σ H Q → tCB r (liftA K Γ t) σ H Q := fun σ H Q ⟨σd, h, rs, rm, w⟩ =>
  lift_mk m rs rm w fun xs h1 vs H1 px rs1 rvs rm1 w1 => l.run xs vs H1 h1 _ Q rvs rm1 w1 fun z h2 w' H2 px2 rz rm2 q => q w' H2 (px.trans px2) rz rm2
theorem FB_lift {K : PySem.W.Frag} {r' : DRF} {r : List V → Hp → VK → Prop} (l : LRF K Γ r' r) (m : Mono t) : ∀ σ H Q, liftF K Γ (fB r' t) σ H Q → tCB r (liftA K Γ t) σ H Q := fun σ H Q ⟨σd, h, rs, rm, w⟩ =>
  lift_mk m rs rm w fun xs h1 vs H1 px rs1 rvs rm1 w1 => l.run xs vs H1 h1 _ Q rvs rm1 w1 fun z h2 w' H2 p px2 rz rm2 q n => q w' H2 p (px.trans px2) rz rm2 n
variable {x : Str} {p : Pos} {id T : String} {r : List V → Hp → VK → Prop}
theorem de_callB {r' : DRA} (hc : CallR X (.builtin id) r) (l : LRA X.K Γ r' r) (hg : Gl X x) (hm : X.mg x = none) (hv : bootBuiltins x = some (.builtin id)) (ha : DA X Γ (e :: es) t) (hn : x ≠ "__name__" := by decide) (hdb : (x == ("__debug__" : Str)) = false := by decide)
    (he : starEach (e :: es) X.env = (false, eval e X.env) :: starEach es X.env := by rfl) (hpl : (backTo pos (starEach es X.env)).any (·.1) = false := by rfl) : DE X Γ (.Call (.Name x p) (e :: es) [] pos) (dB r' t) :=
  ⟨mono_B l.mono ha.mono, pe_imp (pe_callB hc hg hm hv ha.pa hn hdb he hpl) (B_lift l ha.mono)⟩
theorem de_callTy {r' : DRA} (hc : CallR X (.type T) r) (l : LRA X.K Γ r' r) (hg : Gl X x) (hm : X.mg x = none) (hv : bootBuiltins x = some (.type T)) (ha : DA X Γ (e :: es) t) (hn : x ≠ "__name__" := by decide) (hdb : (x == ("__debug__" : Str)) = false := by decide)
    (he : starEach (e :: es) X.env = (false, eval e X.env) :: starEach es X.env := by rfl) (hpl : (backTo pos (starEach es X.env)).any (·.1) = false := by rfl) : DE X Γ (.Call (.Name x p) (e :: es) [] pos) (dB r' t) :=
  ⟨mono_B l.mono ha.mono, pe_imp (pe_callTy hc hg hm hv ha.pa hn hdb he hpl) (B_lift l ha.mono)⟩
theorem df_callTy {r' : DRF} (hc : CallR X (.type T) r) (l : LRF X.K Γ r' r) (hg : Gl X x) (hm : X.mg x = none) (hv : bootBuiltins x = some (.type T)) (ha : DA X Γ (e :: es) t) (hn : x ≠ "__name__" := by decide) (hdb : (x == ("__debug__" : Str)) = false := by decide)
    (he : starEach (e :: es) X.env = (false, eval e X.env) :: starEach es X.env := by rfl) (hpl : (backTo pos (starEach es X.env)).any (·.1) = false := by rfl) : DF X Γ (.Call (.Name x p) (e :: es) [] pos) (fB r' t) :=
  ⟨mono_FB l.mono ha.mono, pe_imp (pe_callTy hc hg hm hv ha.pa hn hdb he hpl) (FB_lift l ha.mono)⟩
end
end DL

namespace DL
open PySem PySem.Spec PyProof.Rows L2
set_option autoImplicit true

def asInt : SV → Option Int
  | .d (.int i) => some i
  | _ => none
def asStr : SV → Option Str
  | .d (.str i) => some i
  | _ => none
def asBool : SV → Option Bool
  | .d (.bool i) => some i
  | _ => none
section
variable {K : PySem.W.Frag} {H : Hp} {h : MH} {x y : SV} {v : V}
theorem asInt_ok {i : Int} (r : RV K Γ H h x v) (e : asInt x = some i) : v = .int i := by
  cases x with
  | own a => cases e
  | d x => cases x with
    | int j => cases e; have r' : Dp K (Fz Γ H h) v (.int i) := r; cases r'; rfl
    | _ => cases e
theorem asStr_ok {i : Str} (r : RV K Γ H h x v) (e : asStr x = some i) : v = .str i := by
  cases x with
  | own a => cases e
  | d x => cases x with
    | str j => cases e; have r' : Dp K (Fz Γ H h) v (.str i) := r; cases r'; rfl
    | _ => cases e
theorem asBool_ok {i : Bool} (r : RV K Γ H h x v) (e : asBool x = some i) : v = .bl i := by
  cases x with
  | own a => cases e
  | d x => cases x with
    | bool j => cases e; have r' : Dp K (Fz Γ H h) v (.bool i) := r; cases r'; rfl
    | _ => cases e
theorem rv_int {i : Int} : RV K Γ H h (.d (.int i)) (.int i) := Dp.int i
theorem rv_bl {i : Bool} : RV K Γ H h (.d (.bool i)) (.bl i) := Dp.bl i
theorem rv_str {i : Str} : RV K Γ H h (.d (.str i)) (.str i) := Dp.str i
theorem rv_non : RV K Γ H h (.d .none) .non := Dp.non
end

def rdI (C : Int → Int → Prop) (g : Int → Int → PyData) : DR2 := fun x y h Q => match asInt x, asInt y with
  | some i, some j => C i j ∧ Q (.d (g i j)) h
  | _, _ => False
def rdI0 (g : Int → Int → PyData) : DR2 := fun x y h Q => match asInt x, asInt y with
  | some i, some j => Q (.d (g i j)) h
  | _, _ => False
section
variable {K : PySem.W.Frag}
theorem lr_I {C : Int → Int → Prop} {g : Int → Int → V} {gd : Int → Int → PyData} (hg : ∀ i j H, Dp K H (g i j) (gd i j)) : LR2 K Γ (rdI C gd) (rI C g) := by
  refine ⟨fun x y h Q Q' k w => ?_, fun x y v u H h C' Q rv ru rm w k => ?_⟩
  · unfold rdI at w ⊢
    split at w
    · exact ⟨w.1, k _ _ w.2⟩
    · exact w
  · unfold rdI at w
    split at w
    · rename_i i j e1 e2
      exact ⟨i, j, asInt_ok rv e1, asInt_ok ru e2, w.1, k (.d (gd i j)) _ _ H PX.refl (hg i j _) rm w.2⟩
    · exact w.elim
theorem lr_I0 {g : Int → Int → V} {gd : Int → Int → PyData} (hg : ∀ i j H, Dp K H (g i j) (gd i j)) : LR2 K Γ (rdI0 gd) (rI0 g) := by
  refine ⟨fun x y h Q Q' k w => ?_, fun x y v u H h C' Q rv ru rm w k => ?_⟩
  · unfold rdI0 at w ⊢
    split at w
    · exact k _ _ w
    · exact w
  · unfold rdI0 at w
    split at w
    · rename_i i j e1 e2
      exact ⟨i, j, asInt_ok rv e1, asInt_ok ru e2, k (.d (gd i j)) _ _ H PX.refl (hg i j _) rm w⟩
    · exact w.elim
abbrev rdSub : DR2 := rdI0 fun i j => .int (i - j)
abbrev rdDiv : DR2 := rdI CDivN fun i j => .int (i.fdiv j)
abbrev rdMod : DR2 := rdI (fun _ j => j ≠ 0) fun i j => .int (i.fmod j)
abbrev rdPow : DR2 := rdI CPow fun i j => .int (i ^ j.toNat)
/-- of two tuples of ints: by the first pair that differs, else by their lengths -/
def cmpT (r : Int → Int → Bool) (z : Bool) : List Int → List Int → Bool
  | x :: xs, y :: ys => if x = y then cmpT r z xs ys else r x y
  | [], _ => z
  | _ :: _, [] => z
def intsD : List PyData → Option (List Int)
  | [] => some []
  | .int i :: r => match intsD r with
    | some ns => some (i :: ns)
    | none => none
  | _ => none
def tupI : SV → Option (List Int)
  | .d (.tuple ds) => intsD ds
  | _ => none
def rdCmp (g : Int → Int → Bool) (z : Nat → Nat → Bool) : DR2 := fun x y h Q => match asInt x, asInt y with
  | some i, some j => Q (.d (.bool (g i j))) h
  | _, _ => match tupI x, tupI y with
    | some ns, some ms => Q (.d (.bool (cmpT g (z ns.length ms.length) ns ms))) h
    | _, _ => False
abbrev rdLt : DR2 := rdCmp (fun i j => decide (i < j)) (fun n m => decide (n < m))
abbrev rdLe : DR2 := rdCmp (fun i j => decide (i ≤ j)) (fun n m => decide (n ≤ m))
abbrev rdGt : DR2 := rdCmp (fun i j => decide (j < i)) (fun n m => decide (n > m))
abbrev rdGe : DR2 := rdCmp (fun i j => decide (j ≤ i)) (fun n m => decide (n ≥ m))
theorem lexAt_shift {e r : Nat → Bool} {z : Bool} : ∀ k i, Ob.lexAt e r z (i + 1) k = Ob.lexAt (fun j => e (j + 1)) (fun j => r (j + 1)) z i k
  | 0, _ => rfl
  | k + 1, i => by rw [Ob.lexAt_succ, Ob.lexAt_succ, lexAt_shift k (i + 1)]
theorem lex_cmp {r : Int → Int → Bool} {z : Bool} : ∀ ns ms : List Int, Ob.lexAt (fun j => decide (ns.getD j 0 = ms.getD j 0)) (fun j => r (ns.getD j 0) (ms.getD j 0)) z 0 (min ns.length ms.length) = cmpT r z ns ms
  | [], ms => by simp [Ob.lexAt, cmpT]
  | x :: xs, [] => by simp [Ob.lexAt, cmpT]
  | x :: xs, y :: ys => by
    have ih := lex_cmp (r := r) (z := z) xs ys
    rw [List.length_cons, List.length_cons, Nat.succ_min_succ, Ob.lexAt_succ, lexAt_shift]
    unfold cmpT
    simp only [List.getD_cons_zero, List.getD_cons_succ, decide_eq_true_eq]
    rw [ih]
def rTc (K : PySem.W.Frag) (r : Int → Int → Bool) (z : Nat → Nat → Bool) : R2 := fun x y H Q => ∃ (a b : Addr) (ns ms : List Int), x = .ref a ∧ y = .ref b ∧ SqT K H a (ns.map V.int) ∧ SqT K H b (ms.map V.int) ∧ Q (.bl (cmpT r (z ns.length ms.length) ns ms)) H
theorem op_tc {X : Cx} {op : CmpOp} {r : Int → Int → Bool} {z : Nat → Nat → Bool} (hC : ∀ v u, compareOp op v u = richCompare op v u) (hu : X.A.units < cLine)
    (hT : ∀ {A : Around} {s : Shared} {l b : Addr} {items items2 : Array Value} {e r : Nat → Bool}, s.heap.IsTuple l items → s.heap.IsTuple b items2 → A.units < cLine → (∀ j (h1 : j < items.size) (h2 : j < items2.size), SeqAt.EqAt A.in1 s items[j] items2[j] (e j)) →
      (∀ j (h1 : j < items.size) (h2 : j < items2.size), e j = false → Ob.RcOp op A.in1 s items[j] items2[j] (r j)) → Ob.RcOp op A s (.ref l) (.ref b) (Ob.lexAt e r (z items.size items2.size) 0 (min items.size items2.size)))
    (hI : ∀ {A : Around} {s : Shared} (a b : Int) (t u : Tok), Ob.RcOp op A s (.int a t) (.int b u) (r a b)) : OpR X (compareOp op) (rTc X.K r z) := by
  intro pins s σ H x y v u Q I rx ry h
  obtain ⟨a, b, ns, ms, rfl, rfl, ha, hb, q⟩ := h
  cases rx
  cases ry
  obtain ⟨its, r1, p1, _⟩ := I.tuple ha
  obtain ⟨its2, r2, p2, _⟩ := I.tuple hb
  have i1 : IntsAre its ns := Vals.ints r1
  have i2 : IntsAre its2 ms := Vals.ints r2
  have e1 : its.toArray.size = ns.length := by rw [List.size_toArray]; exact i1.length
  have e2 : its2.toArray.size = ms.length := by rw [List.size_toArray]; exact i2.length
  have at1 : ∀ j (h1 : j < its.toArray.size), ∃ t, its.toArray[j] = .int (ns.getD j 0) t := fun j h1 => PyProof.Rows.IntsAre.int_at i1 _ _ (by simp at h1; simp [h1])
  have at2 : ∀ j (h1 : j < its2.toArray.size), ∃ t, its2.toArray[j] = .int (ms.getD j 0) t := fun j h1 => PyProof.Rows.IntsAre.int_at i2 _ _ (by simp at h1; simp [h1])
  have R := hT (A := X.A) (s := s) (e := fun j => decide (ns.getD j 0 = ms.getD j 0)) (r := fun j => r (ns.getD j 0) (ms.getD j 0)) p1 p2 hu (fun j h1 h2 => by
    obtain ⟨t, et⟩ := at1 j h1
    obtain ⟨t', et'⟩ := at2 j h2
    rw [et, et']
    have z : (ns.getD j 0 == ms.getD j 0) = decide (ns.getD j 0 = ms.getD j 0) := by
      by_cases q : ns.getD j 0 = ms.getD j 0
      · rw [decide_eq_true q]; exact beq_iff_eq.mpr q
      · rw [decide_eq_false q]; exact beq_eq_false_iff_ne.mpr q
    rw [← z]
    exact SeqAt.EqAt.int_int _ _ _ _) (fun j h1 h2 _ => by
    obtain ⟨t, et⟩ := at1 j h1
    obtain ⟨t', et'⟩ := at2 j h2
    rw [et, et']
    exact hI _ _ _ _)
  rw [e1, e2, lex_cmp] at R
  rw [hC]
  exact R X.prog X.w X.xe (EP X pins σ Q) ⟨.bl _, H, I, rfl, q⟩
def rCmpG (K : PySem.W.Frag) (g : Int → Int → Bool) (z : Nat → Nat → Bool) : R2 := fun x y H Q => rI0 (fun i j => .bl (g i j)) x y H Q ∨ rTc K g z x y H Q
theorem op_ltG {X : Cx} (hu : X.A.units + 1 < cLine) : OpR X (compareOp .Lt) (rCmpG X.K (fun i j => decide (i < j)) (fun n m => decide (n < m))) := OpR.or op_lt (op_tc (fun _ _ => rfl) (by omega) (fun p q hu he hr => Ob.RcOp.tuples_lt p q hu he hr) (fun a b t u => Ob.RcOp.lt_int a b t u))
theorem op_leG {X : Cx} (hu : X.A.units + 1 < cLine) : OpR X (compareOp .LtE) (rCmpG X.K (fun i j => decide (i ≤ j)) (fun n m => decide (n ≤ m))) := OpR.or op_le (op_tc (fun _ _ => rfl) (by omega) (fun p q hu he hr => Ob.RcOp.tuples_le p q hu he hr) (fun a b t u => Ob.RcOp.le_int a b t u))
theorem op_gtG {X : Cx} (hu : X.A.units + 1 < cLine) : OpR X (compareOp .Gt) (rCmpG X.K (fun i j => decide (j < i)) (fun n m => decide (n > m))) := OpR.or op_gt (op_tc (fun _ _ => rfl) (by omega) (fun p q hu he hr => Ob.RcOp.tuples_gt p q hu he hr) (fun a b t u => Ob.RcOp.gt_int a b t u))
theorem op_geG {X : Cx} (hu : X.A.units + 1 < cLine) : OpR X (compareOp .GtE) (rCmpG X.K (fun i j => decide (j ≤ i)) (fun n m => decide (n ≥ m))) := OpR.or op_ge (op_tc (fun _ _ => rfl) (by omega) (fun p q hu he hr => Ob.RcOp.tuples_ge p q hu he hr) (fun a b t u => Ob.RcOp.ge_int a b t u))
theorem intsD_ok {F : Hp} : ∀ {ds : List PyData} {vs : List V} {ns : List Int}, DpAll K F vs ds → intsD ds = some ns → vs = ns.map V.int
  | [], _, _, r, e => by cases r; cases e; rfl
  | d :: ds, _, ns, r, e => by
    cases r with
    | cons h1 h2 =>
      cases d with
      | int i =>
        unfold intsD at e
        cases q : intsD ds with
        | none => rw [q] at e; cases e
        | some ms =>
          rw [q] at e
          cases e
          cases h1
          rw [intsD_ok h2 q]
          rfl
      | _ => cases e
theorem tupI_ok {H : Hp} {h : MH} {x : SV} {v : V} {ns : List Int} (r : RV K Γ H h x v) (e : tupI x = some ns) : ∃ a, v = .ref a ∧ SqT K H a (ns.map V.int) := by
  cases x with
  | own _ => cases e
  | d x =>
    cases x with
    | tuple ds =>
      have r' : Dp K (Fz Γ H h) v (.tuple ds) := r
      cases r' with
      | @tup a vs _ h1 h2 =>
        rw [intsD_ok h2 e] at h1
        exact ⟨a, rfl, sqT_up fz_sub h1⟩
    | _ => cases e
theorem lr_cmp {g : Int → Int → Bool} {z : Nat → Nat → Bool} : LR2 K Γ (rdCmp g z) (rCmpG K g z) := by
  refine ⟨fun x y h Q Q' k w => ?_, fun x y v u H h C' Q rv ru rm w k => ?_⟩
  · unfold rdCmp at w ⊢
    split at w
    · exact k _ _ w
    · split at w
      · exact k _ _ w
      · exact w
  · unfold rdCmp at w
    split at w
    · rename_i i j e1 e2
      exact .inl ⟨i, j, asInt_ok rv e1, asInt_ok ru e2, k _ _ _ H PX.refl rv_bl rm w⟩
    · split at w
      · rename_i ns ms e1 e2
        obtain ⟨a, ea, sa⟩ := tupI_ok rv e1
        obtain ⟨b, eb, sb⟩ := tupI_ok ru e2
        exact .inr ⟨a, b, ns, ms, ea, eb, sa, sb, k _ _ _ H PX.refl rv_bl rm w⟩
      · exact w.elim
theorem lr_sub : LR2 K Γ rdSub (rI0 fun i j => .int (i - j)) := lr_I0 fun _ _ _ => .int _
theorem lr_div : LR2 K Γ rdDiv (rI CDivN fun i j => .int (i.fdiv j)) := lr_I fun _ _ _ => .int _
theorem lr_mod : LR2 K Γ rdMod (rI (fun _ j => j ≠ 0) fun i j => .int (i.fmod j)) := lr_I fun _ _ _ => .int _
theorem lr_pow : LR2 K Γ rdPow (rI CPow fun i j => .int (i ^ j.toNat)) := lr_I fun _ _ _ => .int _
theorem lr_lt : LR2 K Γ rdLt (rCmpG K (fun i j => decide (i < j)) (fun n m => decide (n < m))) := lr_cmp
theorem lr_le : LR2 K Γ rdLe (rCmpG K (fun i j => decide (i ≤ j)) (fun n m => decide (n ≤ m))) := lr_cmp
theorem lr_gt : LR2 K Γ rdGt (rCmpG K (fun i j => decide (j < i)) (fun n m => decide (n > m))) := lr_cmp
theorem lr_ge : LR2 K Γ rdGe (rCmpG K (fun i j => decide (j ≤ i)) (fun n m => decide (n ≥ m))) := lr_cmp
end

def rCatG (K : PySem.W.Frag) : R2 := fun x y H Q => ∃ a b xs ys, x = .ref a ∧ y = .ref b ∧ SqL K H a xs ∧ SqL K H b ys ∧ xs.length + ys.length ≤ sizeLine ∧ ∀ p, H p = none → Q (.ref p) (upd H p (.lst (xs ++ ys)))
theorem op_catG {X : Cx} : OpR X (binaryOp .Add) (rCatG X.K) := by
  intro pins s σ H x y v u Q I rx ry w
  obtain ⟨a, b, xs, ys, rfl, rfl, ha, hb, hz, q⟩ := w
  cases rx
  cases ry
  obtain ⟨i1, r1, ⟨⟨c1, d1, t1, l1⟩, n1, o1, k1, _, e1⟩, _⟩ := I.list ha
  obtain ⟨i2, r2, ⟨⟨c2, d2, t2, l2⟩, n2, o2, k2, _, e2⟩, _⟩ := I.list hb
  simp only at k1 e1 k2 e2
  subst k1 e1 k2 e2
  have f1 := r1.length
  have f2 := r2.length
  have ee : i1.toArray ++ i2.toArray = (i1 ++ i2).toArray := by simp
  refine concat_meets ⟨_, o1, rfl⟩ ⟨_, o2, rfl⟩ noFill_list_add seq_list_add PySem.F.slot_list_add PySem.F.entry_list_add (PySem.F.args_list_add_2 _ _)
    (list_addW a b i1.toArray i2.toArray n1 n2 d1 d2 l1 l2 (by simp only [List.size_toArray]; omega)) ⟨o1, o2, ?_⟩
  rw [ee]
  exact ⟨.ref _, _, I.lnew (t' := s.toks) (r1.append r2) (by rw [List.length_append]; omega), rfl, q _ I.fresh⟩
def rStrCat : R2 := fun x y H Q => ∃ i j, x = .str i ∧ y = .str j ∧ i.length + j.length ≤ sizeLine ∧ Q (.str (i ++ j)) H
def rAddAll (K : PySem.W.Frag) : R2 := fun x y H Q => rI0 (fun i j => .int (i + j)) x y H Q ∨ rStrCat x y H Q ∨ rCatA K x y H Q ∨ rCatG K x y H Q
theorem op_addAll {X : Cx} : OpR X (binaryOp .Add) (rAddAll X.K) := op_add.or (OpR.or op_add_str (OpR.or op_catA op_catG))
def rdAdd : DR2 := fun x y h Q => match asInt x, asInt y with
  | some i, some j => Q (.d (.int (i + j))) h
  | _, _ => match asStr x, asStr y with
    | some a, some b => a.length + b.length ≤ sizeLine ∧ Q (.d (.str (a ++ b))) h
    | _, _ => match asT x, asT y with
      | some a, some b => a.length + b.length ≤ sizeLine ∧ Q (.d (.tuple (a ++ b))) h
      | _, _ => match asL h x, asL h y with
        | some a, some b => a.length + b.length ≤ sizeLine ∧ Q (.d (.list (a ++ b))) h
        | _, _ => False
theorem dps_nil {K : PySem.W.Frag} {H : Hp} {vs : List V} (h : DpAll K H vs []) : vs = [] := by cases h; rfl
theorem dps_nil' {K : PySem.W.Frag} {H : Hp} {ds : List PyData} (h : DpAll K H [] ds) : ds = [] := by cases h; rfl
theorem lr_add {K : PySem.W.Frag} : LR2 K Γ rdAdd (rAddAll K) := by
  refine ⟨fun x y h Q Q' k w => ?_, fun x y v u H h C' Q rv ru rm w k => ?_⟩
  · unfold rdAdd at w ⊢
    split at w
    · exact k _ _ w
    · split at w
      · exact ⟨w.1, k _ _ w.2⟩
      · split at w
        · exact ⟨w.1, k _ _ w.2⟩
        · split at w
          · exact ⟨w.1, k _ _ w.2⟩
          · exact w
  · unfold rdAdd at w
    split at w
    · rename_i i j e1 e2
      exact .inl ⟨i, j, asInt_ok rv e1, asInt_ok ru e2, k _ _ _ H PX.refl rv_int rm w⟩
    · split at w
      · rename_i i j e1 e2
        exact .inr (.inl ⟨i, j, asStr_ok rv e1, asStr_ok ru e2, w.1, k _ _ _ H PX.refl rv_str rm w.2⟩)
      · split at w
        · rename_i i j e1 e2
          obtain ⟨a, xs, rfl, s1, d1⟩ := asT_ok rv e1
          obtain ⟨b, ys, rfl, s2, d2⟩ := asT_ok ru e2
          refine .inr (.inr (.inl ⟨a, b, xs, ys, rfl, rfl, s1, s2, by rw [dps_len d1, dps_len d2]; exact w.1, fun z => ?_, fun z1 z2 => ?_, fun z1 z2 p hp => ?_⟩))
          · subst z
            have z := dps_nil' d1
            subst z
            cases x with
            | own _ => cases e1
            | d x => cases x with
              | tuple xs =>
                cases e1
                cases y with
                | own _ => cases e2
                | d y => cases y with
                  | tuple ys => cases e2; exact k _ _ _ H PX.refl ru rm w.2
                  | _ => cases e2
              | _ => cases e1
          · subst z2
            have z := dps_nil' d2
            subst z
            cases x with
            | own _ => cases e1
            | d x => cases x with
              | tuple xs =>
                cases e1
                have w2 := w.2
                rw [List.append_nil] at w2
                exact k _ _ _ H PX.refl rv rm w2
              | _ => cases e1
          · obtain ⟨p1, r1, v1⟩ := new_tup hp rm (dps_app d1 d2)
            exact k _ _ _ _ p1 v1 r1 w.2
        · split at w
          · rename_i i j e1 e2
            obtain ⟨a, xs, rfl, s1, d1⟩ := asL_ok rv rm e1
            obtain ⟨b, ys, rfl, s2, d2⟩ := asL_ok ru rm e2
            refine .inr (.inr (.inr ⟨a, b, xs, ys, rfl, rfl, s1, s2, by rw [dps_len d1, dps_len d2]; exact w.1, fun p hp => ?_⟩))
            obtain ⟨p1, r1, v1⟩ := new_list hp rm (dps_app d1 d2)
            exact k _ _ _ _ p1 v1 r1 w.2
          · exact w.elim

def rRepG (K : PySem.W.Frag) : R2 := fun x y H Q => ∃ l k xs, x = .ref l ∧ y = .int k ∧ SqL K H l xs ∧ -(2 ^ 63) ≤ k ∧ k < 2 ^ 63 ∧ xs.length * k.toNat ≤ sizeLine ∧ ∀ p, H p = none → Q (.ref p) (upd H p (.lst (List.replicate k.toNat xs).flatten))
theorem op_repG {X : Cx} : OpR X (binaryOp .Mult) (rRepG X.K) := by
  intro pins s σ H x y v u Q I rx ry w
  obtain ⟨l, k, xs, rfl, rfl, hl, b1, b2, hz, q⟩ := w
  cases rx
  obtain ⟨t, rfl⟩ := ry
  obtain ⟨i1, r1, ⟨⟨c1, d1, t1, l1⟩, n1, o1, k1, _, e1⟩, _⟩ := I.list hl
  simp only at k1 e1
  subst k1 e1
  have f1 := r1.length
  have hz' : i1.toArray.size * k.toNat ≤ 2 ^ 24 := by
    rw [List.size_toArray, ← f1]
    exact hz
  refine wpAny_binaryOp_repeat_ref (T := "list") (U := "int") (by decide) ⟨_, o1, rfl⟩ (fun s' => typeIs_int s' k t) noFill_list_mul PySem.F.fills_int_mul PySem.F.slot_int_rmul repeat_list PySem.F.slot_int_index.lookup
    (call_meets PySem.F.slot_int_rmul (typeIs_int s k t) PySem.F.entry_int_rmul (PySem.F.args_int_rmul_2 _ _) (lm_int_rmul_list_any k t l i1.toArray n1 d1 l1)
      ⟨o1, rfl, ⟨_, o1, rfl⟩, call_meets PySem.F.slot_list_mul ⟨_, o1, rfl⟩ PySem.F.entry_list_mul (PySem.F.args_list_mul_2 _ _)
        (lm_list_mul_any l i1.toArray n1 d1 l1 k t (by simp [Builtin.List.listFitsIndex]; omega) (by omega) (by simp [Builtin.List.listTooLong, sizeLine]; simp at hz'; omega)) ⟨o1, ?_⟩⟩)
  rw [listMul_foldl_if]
  exact ⟨.ref _, _, I.lnew (t' := s.toks) (r1.rep k.toNat) (by rw [lm_len_rep_flat, Nat.mul_comm]; exact hz), rfl, q _ I.fresh⟩
def rMulAll (K : PySem.W.Frag) : R2 := fun x y H Q => rI CMul (fun i j => .int (i * j)) x y H Q ∨ rRepG K x y H Q
theorem op_mulAll {X : Cx} : OpR X (binaryOp .Mult) (rMulAll X.K) := op_mul.or op_repG
def rdMul : DR2 := fun x y h Q => match asInt y with
  | some j => match asInt x with
    | some i => CMul i j ∧ Q (.d (.int (i * j))) h
    | none => match asL h x with
      | some a => -(2 ^ 63) ≤ j ∧ j < 2 ^ 63 ∧ a.length * j.toNat ≤ sizeLine ∧ Q (.d (.list (List.replicate j.toNat a).flatten)) h
      | none => False
  | none => False
theorem lr_mul {K : PySem.W.Frag} : LR2 K Γ rdMul (rMulAll K) := by
  refine ⟨fun x y h Q Q' k w => ?_, fun x y v u H h C' Q rv ru rm w k => ?_⟩
  · unfold rdMul at w ⊢
    split at w
    · split at w
      · exact ⟨w.1, k _ _ w.2⟩
      · split at w
        · exact ⟨w.1, w.2.1, w.2.2.1, k _ _ w.2.2.2⟩
        · exact w
    · exact w
  · unfold rdMul at w
    split at w
    · rename_i j e2
      split at w
      · rename_i i e1
        exact .inl ⟨i, j, asInt_ok rv e1, asInt_ok ru e2, w.1, k _ _ _ H PX.refl rv_int rm w.2⟩
      · split at w
        · rename_i a e1
          obtain ⟨l, xs, rfl, s1, d1⟩ := asL_ok rv rm e1
          refine .inr ⟨l, j, xs, rfl, asInt_ok ru e2, s1, w.1, w.2.1, by rw [dps_len d1]; exact w.2.2.1, fun p hp => ?_⟩
          obtain ⟨p1, r1, v1⟩ := new_list hp rm (dps_rep d1 j.toNat)
          exact k _ _ _ _ p1 v1 r1 w.2.2.2
        · exact w.elim
    · exact w.elim

theorem asD_ok {K : PySem.W.Frag} {H : Hp} {h : MH} {x : SV} {v : V} {d : PyData} (rv : RV K Γ H h x v) (rm : RM K Γ H h) (e : asD h x = some d) : Dp K H v d := by
  cases x with
  | d y => cases e; exact dp_up fz_sub _ _ rv
  | own a =>
    cases q : h a with
    | none => simp only [asD, q] at e; cases e
    | some m =>
      cases m with
      | lst xs =>
        simp only [asD, q] at e; cases e
        obtain ⟨vs, e1, e2⟩ := rm.ob a _ q
        have rv' : v = .ref a := rv
        subst rv'
        exact .lst (SqL.of e1) (dps_up fz_sub _ _ e2)
      | _ => simp only [asD, q] at e; cases e
def strs2 (d e : PyData) : Bool := match d, e with
  | .str _, .str _ => true
  | _, _ => false
/-- plain data of few levels, or two texts -/
def eqOk (d e : PyData) : Prop := (SeqAt.shaped d = true ∧ SeqAt.shaped e = true) ∨ strs2 d e = true
def rdEq : DR2 := fun x y h Q => match asD h x, asD h y with
  | some d, some e => eqOk d e ∧ Q (.d (.bool (PyData.eqv d e))) h
  | _, _ => False
def rdNe : DR2 := fun x y h Q => match asD h x, asD h y with
  | some d, some e => eqOk d e ∧ Q (.d (.bool (!PyData.eqv d e))) h
  | _, _ => False
def rEqA (K : PySem.W.Frag) : R2 := fun x y H Q => rEqD K x y H Q ∨ rEq x y H Q
def rNeA (K : PySem.W.Frag) : R2 := fun x y H Q => rNeD K x y H Q ∨ rNe x y H Q
theorem op_eqA {X : Cx} (hu : X.A.units + 64 < cLine) : OpR X (compareOp .Eq) (rEqA X.K) := OpR.or (op_eqD hu) op_eq
theorem op_neA {X : Cx} (hu : X.A.units + 64 < cLine) : OpR X (compareOp .NotEq) (rNeA X.K) := OpR.or (op_neD hu) op_ne
theorem strs2_ok {K : PySem.W.Frag} {H : Hp} {v u : V} {d e : PyData} (h : strs2 d e = true) (r1 : Dp K H v d) (r2 : Dp K H u e) : scal v u = true ∧ decide (v = u) = PyData.eqv d e := by
  cases d <;> cases e <;> first | (cases h; done) | (cases r1; cases r2; exact ⟨rfl, by rw [dec_str]; simp only [PyData.eqv]⟩)
section
variable {K : PySem.W.Frag}
theorem lr_eq : LR2 K Γ rdEq (rEqA K) := by
  refine ⟨fun x y h Q Q' k w => ?_, fun x y v u H h C' Q rv ru rm w k => ?_⟩
  · unfold rdEq at w ⊢
    split at w
    · exact ⟨w.1, k _ _ w.2⟩
    · exact w
  · unfold rdEq at w
    split at w
    · rename_i d e e1 e2
      rcases w.1 with z | z
      · exact .inl ⟨d, e, asD_ok rv rm e1, asD_ok ru rm e2, z.1, z.2, k _ _ _ H PX.refl rv_bl rm w.2⟩
      · obtain ⟨z1, z2⟩ := strs2_ok z (asD_ok rv rm e1) (asD_ok ru rm e2)
        exact .inr ⟨z1, by rw [z2]; exact k _ _ _ H PX.refl rv_bl rm w.2⟩
    · exact w.elim
theorem lr_ne : LR2 K Γ rdNe (rNeA K) := by
  refine ⟨fun x y h Q Q' k w => ?_, fun x y v u H h C' Q rv ru rm w k => ?_⟩
  · unfold rdNe at w ⊢
    split at w
    · exact ⟨w.1, k _ _ w.2⟩
    · exact w
  · unfold rdNe at w
    split at w
    · rename_i d e e1 e2
      rcases w.1 with z | z
      · exact .inl ⟨d, e, asD_ok rv rm e1, asD_ok ru rm e2, z.1, z.2, k _ _ _ H PX.refl rv_bl rm w.2⟩
      · obtain ⟨z1, z2⟩ := strs2_ok z (asD_ok rv rm e1) (asD_ok ru rm e2)
        exact .inr ⟨z1, by rw [z2]; exact k _ _ _ H PX.refl rv_bl rm w.2⟩
    · exact w.elim

theorem isNone_ok {H : Hp} {h : MH} {x : SV} {v : V} (rv : RV K Γ H h x v) : decide (v = .non) = isNone x := by
  cases x with
  | own a => have rv' : v = .ref a := rv; subst rv'; simp [isNone]
  | d x =>
    have rv' : Dp K (Fz Γ H h) v x := rv
    cases rv' <;> simp [isNone]
def rdIsN : DR2 := fun x y h Q => isNone y = true ∧ Q (.d (.bool (isNone x))) h
def rdNotN : DR2 := fun x y h Q => isNone y = true ∧ Q (.d (.bool (!isNone x))) h
theorem lr_isN : LR2 K Γ rdIsN (fun x y H Q => y = .non ∧ Q (.bl (decide (x = .non))) H) := by
  refine ⟨fun x y h Q Q' k w => ⟨w.1, k _ _ w.2⟩, fun x y v u H h C' Q rv ru rm w k => ⟨?_, ?_⟩⟩
  · have z := isNone_ok ru
    rw [w.1] at z
    exact of_decide_eq_true z
  · rw [isNone_ok rv]
    exact k _ _ _ H PX.refl rv_bl rm w.2
theorem lr_notN : LR2 K Γ rdNotN (fun x y H Q => y = .non ∧ Q (.bl (!decide (x = .non))) H) := by
  refine ⟨fun x y h Q Q' k w => ⟨w.1, k _ _ w.2⟩, fun x y v u H h C' Q rv ru rm w k => ⟨?_, ?_⟩⟩
  · have z := isNone_ok ru
    rw [w.1] at z
    exact of_decide_eq_true z
  · rw [isNone_ok rv]
    exact k _ _ _ H PX.refl rv_bl rm w.2

def ownO (h : MH) : SV → Option (Addr × MO)
  | .own a => match h a with
    | some (.lst _) => none
    | some o => some (a, o)
    | none => none
  | .d _ => none
theorem ownO_ok {h : MH} {x : SV} {a : Addr} {o : MO} (e : ownO h x = some (a, o)) : x = .own a ∧ h a = some o := by
  cases x with
  | d _ => cases e
  | own b =>
    unfold ownO at e
    cases q : h b with
    | none => simp only [q] at e; cases e
    | some m => cases m <;> simp only [q] at e <;> cases e <;> exact ⟨rfl, q⟩
theorem ownO_asL {h : MH} {x : SV} {xs : List PyData} (e : asL h x = some xs) : ownO h x = none := by
  cases x with
  | d _ => rfl
  | own b =>
    cases q : h b with
    | none => simp only [ownO, q]
    | some m => cases m <;> first | (simp only [ownO, q]; done) | (simp only [asL, q] at e; cases e)
theorem ownO_asQ {h : MH} {x : SV} {xs : List PyData} (e : asQ h x = some xs) : ownO h x = none := by
  cases x with
  | d _ => rfl
  | own b =>
    unfold asQ at e
    cases q : asL h (.own b) with
    | some ys => exact ownO_asL q
    | none => rw [q] at e; cases e
def keyP : PyData → Option Key
  | .int i => some (.inl i)
  | .str z => some (.inr z)
  | _ => none
def asKey : SV → Option Key
  | .d d => keyP d
  | .own _ => none
def valS {κ : Type} [DecidableEq κ] (ps : List (κ × SV)) (k : κ) : Option SV := (ps.find? fun kv => decide (kv.1 = k)).map (·.2)
def putS {κ : Type} [DecidableEq κ] (ps : List (κ × SV)) (k : κ) (v : SV) : List (κ × SV) :=
  if (ps.any fun kv => decide (kv.1 = k)) = true then ps.map (fun kv => if kv.1 = k then (kv.1, v) else kv) else ps ++ [(k, v)]
theorem asKey_ok {K : PySem.W.Frag} {Γ : GI} {H : Hp} {h : MH} {x : SV} {v : V} {k : Key} (r : RV K Γ H h x v) (e : asKey x = some k) : v = kV k := by
  cases x with
  | own _ => cases e
  | d d =>
    cases d with
    | int i => cases e; cases r; rfl
    | str z => cases e; cases r; rfl
    | _ => cases e
theorem valS_ok {κ : Type} [DecidableEq κ] {K : PySem.W.Frag} {F : Hp} {k : κ} : ∀ {ps : List (κ × SV)} {kvs : List (κ × V)}, Paired (RPF K F) ps kvs → (∀ z, valS ps k = some z → ∃ v, valV kvs k = some v ∧ RVF K F z v) ∧ (valS ps k = none → valV kvs k = none)
  | _, _, .nil => ⟨fun z e => (by cases e), fun _ => rfl⟩
  | (x, y) :: ps, (x', v) :: kvs, .cons h t => by
    obtain ⟨e1, e2⟩ := h
    have e1' : x = x' := e1
    subst e1'
    by_cases q : x = k
    · have a : valS ((x, y) :: ps) k = some y := by simp [valS, List.find?_cons, q]
      rw [a, valV_pos (p := (x, v)) q]
      exact ⟨fun z e => (by cases e; exact ⟨v, rfl, e2⟩), fun e => (by cases e)⟩
    · have a : valS ((x, y) :: ps) k = valS ps k := by simp [valS, List.find?_cons, q]
      rw [a, valV_neg (p := (x, v)) q]
      exact valS_ok t
theorem anyS_ok {κ : Type} [DecidableEq κ] {K : PySem.W.Frag} {F : Hp} {k : κ} : ∀ {ps : List (κ × SV)} {kvs : List (κ × V)}, Paired (RPF K F) ps kvs → (ps.any fun kv => decide (kv.1 = k)) = (kvs.any fun kv => decide (kv.1 = k))
  | _, _, .nil => rfl
  | _ :: _, _ :: _, .cons h t => by rw [List.any_cons, List.any_cons, anyS_ok t, h.1]
theorem pairs_len {α β : Type} {R : α → β → Prop} : ∀ {l : List α} {m : List β}, Paired R l m → l.length = m.length
  | _, _, .nil => rfl
  | _, _, .cons _ t => by simp [pairs_len t]
theorem pairs_snoc {α β : Type} {R : α → β → Prop} {a : α} {b : β} (r : R a b) : ∀ {l : List α} {m : List β}, Paired R l m → Paired R (l ++ [a]) (m ++ [b])
  | _, _, .nil => .cons r .nil
  | _, _, .cons h t => .cons h (pairs_snoc r t)
theorem putS_ok {κ : Type} [DecidableEq κ] {K : PySem.W.Frag} {F : Hp} {k : κ} {z : SV} {v : V} {ps : List (κ × SV)} {kvs : List (κ × V)} (r : Paired (RPF K F) ps kvs) (rz : RVF K F z v) : Paired (RPF K F) (putS ps k z) (putK kvs k v) := by
  unfold putS putK
  rw [anyS_ok r]
  split
  · rename_i hany
    clear hany
    induction r with
    | nil => exact .nil
    | @cons p q ps kvs h t ih =>
      refine .cons ?_ ih
      show RPF K F (if p.1 = k then (p.1, z) else p) (if q.1 = k then (q.1, v) else q)
      by_cases e : p.1 = k
      · rw [if_pos e, if_pos (h.1 ▸ e)]; exact ⟨h.1, rz⟩
      · rw [if_neg e, if_neg (h.1 ▸ e)]; exact h
  · exact pairs_snoc ⟨rfl, rz⟩ r
theorem pairs_get {α β : Type} {R : α → β → Prop} : ∀ {l : List α} {m : List β} {i : Nat} {a : α}, Paired R l m → l[i]? = some a → ∃ b, m[i]? = some b ∧ R a b
  | _, _, _, _, .nil, e => by simp at e
  | _, _, 0, _, .cons h _, e => by simp at e; subst e; exact ⟨_, rfl, h⟩
  | _, _, i + 1, a, .cons _ t, e => by
    obtain ⟨b, e1, e2⟩ := pairs_get (i := i) (a := a) t (by simpa using e)
    exact ⟨b, by simpa using e1, e2⟩
theorem pairs_at {α β : Type} {R : α → β → Prop} {l : List α} {m : List β} {i : Int} {a : α} (r : Paired R l m) (e : atI l i = some a) : ∃ b, atI m i = some b ∧ R a b := by
  unfold atI at e ⊢
  rw [← pairs_len r]
  cases q : ixN l.length i with
  | none => rw [q] at e; cases e
  | some j =>
    rw [q] at e
    exact pairs_get r e
/-- what a subscript finds in what is one's own -/
def ixO (o : MO) (y : SV) : Option SV := match o with
  | .seq xs => match asInt y with
    | some i => atI xs i
    | none => none
  | .tpl xs => match asInt y with
    | some i => atI xs i
    | none => none
  | .dct ps => match asKey y with
    | some k => valS ps k
    | none => none
  | .dcl _ _ ps => match asKey y with
    | some k => valS ps k
    | none => none
  | _ => none

def inO (o : MO) (x : SV) : Option Bool := match o with
  | .dct ps => match asKey x with
    | some k => some (valS ps k).isSome
    | none => none
  | _ => none
def rdInL : DR2 := fun x y h Q => match ownO h y with
  | some p => match inO p.2 x with
    | some b => Q (.d (.bool b)) h
    | none => False
  | none => match asD h x, asL h y with
    | some d, some ds => SeqAt.shaped d = true ∧ SeqAt.shaped (.list ds) = true ∧ Q (.d (.bool (ds.any fun z => PyData.eqv z d))) h
    | _, _ => False
def rdNotInL : DR2 := fun x y h Q => match ownO h y with
  | some p => match inO p.2 x with
    | some b => Q (.d (.bool (!b))) h
    | none => False
  | none => match asD h x, asL h y with
    | some d, some ds => SeqAt.shaped d = true ∧ SeqAt.shaped (.list ds) = true ∧ Q (.d (.bool (!ds.any fun z => PyData.eqv z d))) h
    | _, _ => False
theorem asL_D {h : MH} {y : SV} {ds : List PyData} (e : asL h y = some ds) : asD h y = some (.list ds) := by
  cases y with
  | own a =>
    cases q : h a with
    | none => simp only [asL, q] at e; cases e
    | some m => cases m with
      | lst xs => simp only [asL, q] at e; cases e; simp only [asD, q]
      | _ => simp only [asL, q] at e; cases e
  | d y => cases y with
    | list xs => cases e; rfl
    | _ => cases e
def rInDc : R2 := fun x y H Q => ∃ a o, y = .ref a ∧ DGet H a x o ∧ Q (.bl o.isSome) H
def rNotInDc : R2 := fun x y H Q => ∃ a o, y = .ref a ∧ DGet H a x o ∧ Q (.bl (!o.isSome)) H
def rInG (K : PySem.W.Frag) : R2 := fun x y H Q => rInD K x y H Q ∨ rInDc x y H Q
def rNotInG (K : PySem.W.Frag) : R2 := fun x y H Q => rNotInD K x y H Q ∨ rNotInDc x y H Q
theorem op_inDc {X : Cx} (hu : X.A.units + 1 < cLine) : OpR X (compareOp .In) rInDc := by
  intro pins s σ H x y v u Q I rx ry ⟨a, o, e, g, q⟩
  subst e
  obtain rfl : u = Value.ref a := ry
  exact d_in hu I g rx fun s3 I3 => ⟨.bl o.isSome, H, I3, rfl, q⟩
theorem op_notInDc {X : Cx} (hu : X.A.units + 1 < cLine) : OpR X (compareOp .NotIn) rNotInDc := by
  intro pins s σ H x y v u Q I rx ry ⟨a, o, e, g, q⟩
  subst e
  obtain rfl : u = Value.ref a := ry
  exact d_notIn hu I g rx fun s3 I3 => ⟨.bl (!o.isSome), H, I3, rfl, q⟩
theorem op_inG {X : Cx} (hu : X.A.units + 65 < cLine) : OpR X (compareOp .In) (rInG X.K) := OpR.or (op_inD hu) (op_inDc (by omega))
theorem op_notInG {X : Cx} (hu : X.A.units + 65 < cLine) : OpR X (compareOp .NotIn) (rNotInG X.K) := OpR.or (op_notInD hu) (op_notInDc (by omega))
theorem inO_ok {K : PySem.W.Frag} {Γ : GI} {H : Hp} {h : MH} {x y : SV} {u v : V} {p : Addr × MO} {b : Bool} (rm : RM K Γ H h) (rx : RV K Γ H h x u) (ry : RV K Γ H h y v) (e : ownO h y = some p) (e2 : inO p.2 x = some b) :
    ∃ o : Option V, v = .ref p.1 ∧ DGet H p.1 u o ∧ o.isSome = b := by
  obtain ⟨ex, ea⟩ := ownO_ok e
  subst ex
  have ev : v = .ref p.1 := ry
  obtain ⟨u0, f1, f2⟩ := ro_at (rm.ob _ _ ea)
  unfold inO at e2
  split at e2
  · rename_i ps hq
    rw [hq] at f2
    split at e2
    · rename_i k e3
      cases e2
      cases u0 <;> first | exact f2.elim | skip
      rename_i kvs
      refine ⟨valV kvs k, ev, ?_, ?_⟩
      · rw [asKey_ok rx e3]; exact DGet.k f1
      · cases q : valS ps k with
        | none => rw [(valS_ok f2).2 q]; rfl
        | some z =>
          obtain ⟨w, g1, _⟩ := (valS_ok f2).1 z q
          rw [g1]; rfl
    · cases e2
  · cases e2
theorem lr_inL : LR2 K Γ rdInL (rInG K) := by
  refine ⟨fun x y h Q Q' k w => ?_, fun x y v u H h C' Q rv ru rm w k => ?_⟩
  · unfold rdInL at w ⊢
    split at w
    · split at w
      · exact k _ _ w
      · exact w
    · split at w
      · exact ⟨w.1, w.2.1, k _ _ w.2.2⟩
      · exact w
  · unfold rdInL at w
    split at w
    · rename_i p e0
      split at w
      · rename_i b e1
        obtain ⟨o, e2, g, e3⟩ := inO_ok rm rv ru e0 e1
        exact .inr ⟨_, o, e2, g, by rw [e3]; exact k _ _ _ H PX.refl rv_bl rm w⟩
      · exact w.elim
    · split at w
      · rename_i d e e1 e2
        exact .inl ⟨d, e, asD_ok rv rm e1, asD_ok ru rm (asL_D e2), w.1, w.2.1, k _ _ _ H PX.refl rv_bl rm w.2.2⟩
      · exact w.elim
theorem lr_notInL : LR2 K Γ rdNotInL (rNotInG K) := by
  refine ⟨fun x y h Q Q' k w => ?_, fun x y v u H h C' Q rv ru rm w k => ?_⟩
  · unfold rdNotInL at w ⊢
    split at w
    · split at w
      · exact k _ _ w
      · exact w
    · split at w
      · exact ⟨w.1, w.2.1, k _ _ w.2.2⟩
      · exact w
  · unfold rdNotInL at w
    split at w
    · rename_i p e0
      split at w
      · rename_i b e1
        obtain ⟨o, e2, g, e3⟩ := inO_ok rm rv ru e0 e1
        exact .inr ⟨_, o, e2, g, by rw [e3]; exact k _ _ _ H PX.refl rv_bl rm w⟩
      · exact w.elim
    · split at w
      · rename_i d e e1 e2
        exact .inl ⟨d, e, asD_ok rv rm e1, asD_ok ru rm (asL_D e2), w.1, w.2.1, k _ _ _ H PX.refl rv_bl rm w.2.2⟩
      · exact w.elim
end

def rdIx : DR2 := fun x y h Q => match ownO h x with
  | some p => match ixO p.2 y with
    | some z => Q z h
    | none => False
  | none => match asInt y with
  | some i => match asStr x with
    | some z => match atI z.cps.toList i with
      | some c => z.length ≤ sizeLine ∧ Q (.d (.str ⟨#[c]⟩)) h
      | none => False
    | none => match asQ h x with
      | some xs => match atI xs i with
        | some d => Q (.d d) h
        | none => False
      | none => False
  | none => False
def rIxDc : R2 := fun x y H Q => ∃ a v, x = .ref a ∧ DGet H a y (some v) ∧ Q v H
theorem ix_dct {X : Cx} (hu : X.A.units + 1 < cLine) : IxR X rIxDc := by
  intro value slice pins s σ H x y v u Q I rx ry h hs
  obtain ⟨a, z, rfl, g, q⟩ := h
  obtain rfl : v = Value.ref a := rx
  exact tail_any (dict_typeIs I g) slot_dict_getitem.lookup (d_getItem hu I g ry fun w' s3 I3 rw' => ⟨z, H, I3, rw', q⟩) hs
def rIxG (K : PySem.W.Frag) : R2 := fun x y H Q => rIx K x y H Q ∨ rIxDc x y H Q
theorem ix_G {X : Cx} (hu : X.A.units + 1 < cLine) : IxR X (rIxG X.K) := ix_seq.or (ix_dct hu)
theorem dps_at {K : PySem.W.Frag} {H : Hp} {ds : List PyData} {vs : List V} {i : Int} {d : PyData} (r : DpAll K H vs ds) (e : atI ds i = some d) : ∃ v, atI vs i = some v ∧ Dp K H v d := by
  unfold atI at e ⊢
  rw [dps_len r]
  cases q : ixN ds.length i with
  | none => rw [q] at e; cases e
  | some j =>
    rw [q] at e
    exact dps_get r e
theorem lr_ix {K : PySem.W.Frag} : LR2 K Γ rdIx (rIxG K) := by
  refine ⟨fun x y h Q Q' k w => ?_, fun x y v u H h C' Q rv ru rm w k => ?_⟩
  · unfold rdIx at w ⊢
    split at w
    · split at w
      · exact k _ _ w
      · exact w
    · split at w
      · split at w
        · split at w
          · exact ⟨w.1, k _ _ w.2⟩
          · exact w
        · split at w
          · split at w
            · exact k _ _ w
            · exact w
          · exact w
      · exact w
  · unfold rdIx at w
    split at w
    · rename_i p e0
      split at w
      · rename_i z e1
        obtain ⟨ex, ea⟩ := ownO_ok e0
        subst ex
        have ev : v = .ref p.1 := rv
        subst ev
        obtain ⟨u0, f1, f2⟩ := ro_at (rm.ob _ _ ea)
        have fin : ∀ w', RVF K (Fz Γ H h) z w' → Q w' H := fun w' rz => k z h w' H PX.refl (by cases z <;> exact rz) rm w
        unfold ixO at e1
        split at e1
        · rename_i xs hq
          rw [hq] at f2
          split at e1
          · rename_i i e2
            cases u0 <;> first | exact f2.elim | skip
            obtain ⟨w', g1, g2⟩ := pairs_at f2 e1
            exact .inl (.inl ⟨_, _, i, w', rfl, asInt_ok ru e2, SqL.of f1, g1, fin _ g2⟩)
          · cases e1
        · rename_i xs hq
          rw [hq] at f2
          split at e1
          · rename_i i e2
            cases u0 <;> first | exact f2.elim | skip
            obtain ⟨w', g1, g2⟩ := pairs_at f2 e1
            exact .inl (.inr (.inl ⟨_, _, i, w', rfl, asInt_ok ru e2, SqT.of f1, g1, fin _ g2⟩))
          · cases e1
        · rename_i ps hq
          rw [hq] at f2
          split at e1
          · rename_i i e2
            cases u0 <;> first | exact f2.elim | skip
            obtain ⟨w', g1, g2⟩ := (valS_ok f2).1 _ e1
            refine .inr ⟨_, w', rfl, ?_, fin _ g2⟩
            rw [asKey_ok ru e2, ← g1]
            exact DGet.k f1
          · cases e1
        · rename_i o0 kv0 ps hq
          rw [hq] at f2
          split at e1
          · rename_i i e2
            cases u0 <;> first | exact f2.elim | skip
            obtain ⟨z1, rfl, z2⟩ := f2
            obtain ⟨w', g1, g2⟩ := (valS_ok z2).1 _ e1
            refine .inr ⟨_, w', rfl, ?_, fin _ g2⟩
            rw [asKey_ok ru e2, ← g1]
            exact .inl ⟨kv0, i, .inr ⟨_, f1⟩, rfl, rfl⟩
          · cases e1
        · cases e1
      · exact w.elim
    · split at w
      · rename_i i e2
        have eu := asInt_ok ru e2
        split at w
        · rename_i z e1
          split at w
          · rename_i c e3
            exact .inl (.inr (.inr ⟨z, i, c, asStr_ok rv e1, eu, w.1, e3, k _ _ _ H PX.refl rv_str rm w.2⟩))
          · exact w.elim
        · split at w
          · rename_i xs e1
            split at w
            · rename_i d e3
              obtain ⟨a, vs, rfl, s1, d1⟩ := asQ_ok rv rm e1
              obtain ⟨u', e4, rd⟩ := dps_at d1 e3
              rcases s1 with s1 | s1
              · exact .inl (.inl ⟨a, vs, i, u', rfl, eu, s1, e4, k (.d d) _ _ H PX.refl rd rm w⟩)
              · exact .inl (.inr (.inl ⟨a, vs, i, u', rfl, eu, s1, e4, k (.d d) _ _ H PX.refl rd rm w⟩))
            · exact w.elim
          · exact w.elim
      · exact w.elim
section
variable {X : Cx} {a b c e : Expr} {pos p2 : Pos} {ta tb tc te : DTE} {t : DTA} {es : List Expr}
theorem de_ix (hu : X.A.units + 1 < cLine) (ha : DE X Γ a ta) (hb : DE X Γ b tb) (hs : PlainIx b := by exact fun _ _ => rfl) : DE X Γ (.Subscript a b pos) (dOp rdIx ta tb) :=
  ⟨mono_op (lr_ix (K := X.K) (Γ := Γ)).mono ha.mono hb.mono, pe_imp (pe_ix (ix_G hu) ha.pe hb.pe hs) (op_lift lr_ix ha.mono hb.mono)⟩

abbrev DTO := DSt → MH → (Option Int → MH → Prop) → Prop
structure DO (X : Cx) (Γ : GI) (e : Option Expr) (t : DTO) : Prop where
  mono : Mono t
  po : PO X e (lift X.K Γ (fun _ _ a b => a = b) t)
def dNoPart : DTO := fun _ h Q => Q none h
def dPart (t : DTE) : DTO := fun σ h Q => t σ h fun x h1 => match asInt x with
  | some i => Q (some i) h1
  | none => False
theorem po_imp {e : Option Expr} {t t' : TO} (p : PO X e t) (k : ∀ σ H Q, t' σ H Q → t σ H Q) : PO X e t' := by
  cases p with
  | mk r => exact ⟨fun pins s σ H Q I w => r pins s σ H Q I (k σ H Q w)⟩
theorem do_none : DO X Γ none dNoPart := ⟨fun _ _ _ _ k w => k _ _ w, po_imp po_none fun σ H Q ⟨σd, h, rs, rm, w⟩ => w _ H PX.refl rfl rm⟩
theorem do_some (ha : DE X Γ e te) : DO X Γ (some e) (dPart te) :=
  ⟨fun σ h Q Q' k w => ha.mono _ _ _ _ (fun x h1 w1 => by
    cases q : asInt x with
    | none => rw [q] at w1; exact w1
    | some i => rw [q] at w1; exact k _ _ w1) w,
  po_imp (po_some ha.pe) fun σ H Q ⟨σd, h, rs, rm, w⟩ => lift_mk ha.mono rs rm w fun x h1 v H1 px rs1 rv rm1 w1 => by
    cases q : asInt x with
    | none => rw [q] at w1; exact w1.elim
    | some i =>
      rw [q] at w1
      exact ⟨i, asInt_ok rv q, w1 _ H1 px rfl rm1⟩⟩
abbrev cutD (xs : List PyData) (lo hi : Option Int) : List PyData := (xs.drop (HT.sIx xs.length 0 lo)).take (HT.sIx xs.length xs.length hi - HT.sIx xs.length 0 lo)
theorem dps_cut {K : PySem.W.Frag} {H : Hp} {ds : List PyData} {vs : List V} {lo hi : Option Int} (r : DpAll K H vs ds) : DpAll K H (cutV vs lo hi) (cutD ds lo hi) := by
  unfold cutV cutD
  rw [dps_len r]
  exact dps_take _ (dps_drop _ r)
def rdSl (x : SV) (lo hi : Option Int) (h : MH) (Q : DK) : Prop := match asStr x with
  | some z => z.length ≤ sizeLine ∧ Q (.d (.str (cutS z lo hi))) h
  | none => match asT x with
    | some xs => Q (.d (.tuple (cutD xs lo hi))) h
    | none => match asL h x with
      | some xs => Q (.d (.list (cutD xs lo hi))) h
      | none => False
end
end DL

namespace DL
open PySem PySem.Spec PyProof.Rows L2
set_option autoImplicit true

def rSlAll (K : PySem.W.Frag) : V → Option Int → Option Int → Hp → VK → Prop := fun x lo hi H Q => rSlS x lo hi H Q ∨ (rSlA K x lo hi H Q ∨ rSlL K x lo hi H Q)
theorem sl_all {X : Cx} : SlR X (rSlAll X.K) := sl_str.or (sl_tupA.or sl_list)
theorem cut_whole {α : Type} (xs : List α) {lo hi : Option Int} (h : HT.sIx xs.length 0 lo = 0 ∧ HT.sIx xs.length xs.length hi = xs.length) : (xs.drop (HT.sIx xs.length 0 lo)).take (HT.sIx xs.length xs.length hi - HT.sIx xs.length 0 lo) = xs := by
  rw [h.1, h.2, List.drop_zero, Nat.sub_zero, List.take_length]
def dSl (te : DTE) (tl th : DTO) : DTE := fun σ h Q => te σ h fun x h1 => tl σ h1 fun lo h2 => th σ h2 fun hi h3 => rdSl x lo hi h3 Q
section
variable {X : Cx} {a b c e : Expr} {pos p2 : Pos} {ta tb tc te : DTE} {t : DTA} {es : List Expr} {tl th : DTO} {lo hi : Option Expr}
theorem rdSl_mono {x : SV} {lo hi : Option Int} {h : MH} {Q Q' : DK} (k : ∀ z h', Q z h' → Q' z h') (w : rdSl x lo hi h Q) : rdSl x lo hi h Q' := by
  unfold rdSl at w ⊢
  split at w
  · exact ⟨w.1, k _ _ w.2⟩
  · split at w
    · exact k _ _ w
    · split at w
      · exact k _ _ w
      · exact w
theorem mono_sl (me : Mono te) (ml : Mono tl) (mh : Mono th) : Mono (dSl te tl th) := fun σ h Q Q' k w => me _ _ _ _ (fun x h1 w1 => ml _ _ _ _ (fun l h2 w2 => mh _ _ _ _ (fun u h3 w3 => rdSl_mono k w3) w2) w1) w
theorem sl_run {K : PySem.W.Frag} {x : SV} {v : V} {lo hi : Option Int} {H : Hp} {h : MH} {C : DK} {Q : VK} (rv : RV K Γ H h x v) (rm : RM K Γ H h) (w : rdSl x lo hi h C) (k : ∀ z h' w H', PX Γ H h H' h' → RV K Γ H' h' z w → RM K Γ H' h' → C z h' → Q w H') : rSlAll K v lo hi H Q := by
  unfold rdSl at w
  split at w
  · rename_i z e1
    exact .inl ⟨z, asStr_ok rv e1, w.1, k _ _ _ H PX.refl rv_str rm w.2⟩
  · split at w
    · rename_i xs e1
      obtain ⟨a, vs, rfl, s1, d1⟩ := asT_ok rv e1
      refine .inr (.inl ⟨a, vs, rfl, s1, fun hw => ?_, fun _ p hp => ?_⟩)
      · have e3 : cutD xs lo hi = xs := cut_whole xs (by rw [dps_len d1] at hw; exact hw)
        rw [e3] at w
        cases x with
        | own _ => cases e1
        | d x => cases x with
          | tuple ys => cases e1; exact k _ _ _ H PX.refl rv rm w
          | _ => cases e1
      · obtain ⟨p1, r1, v1⟩ := new_tup hp rm (dps_cut (lo := lo) (hi := hi) d1)
        exact k _ _ _ _ p1 v1 r1 w
    · split at w
      · rename_i xs e1
        obtain ⟨a, vs, rfl, s1, d1⟩ := asL_ok rv rm e1
        refine .inr (.inr ⟨a, vs, rfl, s1, fun p hp => ?_⟩)
        obtain ⟨p1, r1, v1⟩ := new_list hp rm (dps_cut (lo := lo) (hi := hi) d1)
        exact k _ _ _ _ p1 v1 r1 w
      · exact w.elim
theorem de_sl (he : DE X Γ e te) (hl : DO X Γ lo tl) (hh : DO X Γ hi th) : DE X Γ (.Subscript e (.Slice lo hi none p2) pos) (dSl te tl th) :=
  ⟨mono_sl he.mono hl.mono hh.mono, pe_imp (pe_slice sl_all he.pe hl.po hh.po) fun σ H Q ⟨σd, h, rs, rm, w⟩ =>
    lift_mk he.mono rs rm w fun x h1 v H1 px rs1 rv rm1 w1 => lift_mk hl.mono rs1 rm1 w1 fun l h2 l' H2 px2 rs2 el rm2 w2 => lift_mk hh.mono rs2 rm2 w2 fun u h3 u' H3 px3 rs3 eu rm3 w3 => by
      subst el eu
      exact sl_run ((rv.up px2).up px3) rm3 w3 fun z h' w' H' px' rz rm' q => q _ _ (((px.trans px2).trans px3).trans px') rz rm'⟩
/-- + of lists, * of a list, fresh -/
def fAdd (ta tb : DTE) : DTF := fun σ h Q => ta σ h fun x h1 => tb σ h1 fun y h2 => match asL h2 x, asL h2 y with
  | some a, some b => a.length + b.length ≤ sizeLine ∧ Q (a ++ b) h2
  | _, _ => False
def dNeg (ta : DTE) : DTE := fun σ h Q => ta σ h fun x h1 => match asInt x with
  | some i => Q (.d (.int (-i))) h1
  | none => False
theorem de_neg (ha : DE X Γ a ta) : DE X Γ (.UnaryOp .USub a pos) (dNeg ta) :=
  ⟨fun σ h Q Q' k w => ha.mono _ _ _ _ (fun x h1 w1 => by
    split at w1
    · exact k _ _ w1
    · exact w1) w, pe_imp (pe_un un_neg ha.pe) fun σ H Q ⟨σd, h, rs, rm, w⟩ => lift_mk ha.mono rs rm w fun x h1 v H1 px rs1 rv rm1 w1 => by
      split at w1
      · rename_i i e1
        exact ⟨i, asInt_ok rv e1, w1 _ _ px rv_int rm1⟩
      · exact w1.elim⟩
end

section
variable {K : PySem.W.Frag}
theorem rvs1 {H : Hp} {h : MH} {x : SV} {vs : List V} (r : RVs K Γ H h [x] vs) : ∃ v, vs = [v] ∧ RV K Γ H h x v := by
  cases r with
  | cons r t => cases t; exact ⟨_, rfl, r⟩
theorem rvs2 {H : Hp} {h : MH} {x y : SV} {vs : List V} (r : RVs K Γ H h [x, y] vs) : ∃ v u, vs = [v, u] ∧ RV K Γ H h x v ∧ RV K Γ H h y u := by
  cases r with
  | cons r t => cases t with
    | cons r2 t => cases t; exact ⟨_, _, rfl, r, r2⟩
/-- len -/
def lenO : MO → Option Nat
  | .lst xs => some xs.length
  | .seq xs => some xs.length
  | .tpl xs => some xs.length
  | .dct ps => some ps.length
  | _ => none
def rdLen : DRA := fun xs h Q => match xs with
  | [x] => match ownO h x with
    | some p => match lenO p.2 with
      | some n => Q (.d (.int (n : Nat))) h
      | none => False
    | none => match asStr x with
      | some z => z.length ≤ sizeLine ∧ Q (.d (.int z.length)) h
      | none => match asQ h x with
        | some ds => Q (.d (.int ds.length)) h
        | none => False
  | _ => False
def rLenAll (K : PySem.W.Frag) : List V → Hp → VK → Prop := fun xs H Q => ((∃ p ys, xs = [.ref p] ∧ (SqL K H p ys ∨ SqT K H p ys) ∧ Q (.int ys.length) H) ∨ (∃ z, xs = [.str z] ∧ z.length ≤ sizeLine ∧ Q (.int z.length) H)) ∨ (∃ a kvs, xs = [V.ref a] ∧ H a = some (.dK kvs) ∧ Q (.int kvs.length) H)
theorem cr_len {X : Cx} : CallR X (.builtin "len") (rLenAll X.K) := (call_len_seq.or call_len_str).or call_lenD
theorem la_len : LRA K Γ rdLen (rLenAll K) := by
  refine ⟨fun xs h Q Q' k w => ?_, fun xs vs H h C Q r rm w k => ?_⟩
  · unfold rdLen at w ⊢
    split at w
    · split at w
      · split at w
        · exact k _ _ w
        · exact w
      · split at w
        · exact ⟨w.1, k _ _ w.2⟩
        · split at w
          · exact k _ _ w
          · exact w
    · exact w
  · unfold rdLen at w
    split at w
    · obtain ⟨v, rfl, rv⟩ := rvs1 r
      split at w
      · rename_i p e0
        obtain ⟨a, o⟩ := p
        obtain ⟨ex, ea⟩ := ownO_ok e0
        subst ex
        have ev : v = .ref a := rv
        subst ev
        obtain ⟨u0, f1, f2⟩ := ro_at (rm.ob _ _ ea)
        cases o <;> cases u0 <;> first | exact f2.elim | exact w.elim | skip
        · exact .inl (.inl ⟨a, _, rfl, .inl (SqL.of f1), k _ _ _ H PX.refl rv_int rm (by rw [dps_len f2]; exact w)⟩)
        · exact .inl (.inl ⟨a, _, rfl, .inl (SqL.of f1), k _ _ _ H PX.refl rv_int rm (by rw [← pairs_len f2]; exact w)⟩)
        · exact .inl (.inl ⟨a, _, rfl, .inr (SqT.of f1), k _ _ _ H PX.refl rv_int rm (by rw [← pairs_len f2]; exact w)⟩)
        · exact .inr ⟨a, _, rfl, f1, k _ _ _ H PX.refl rv_int rm (by rw [← pairs_len f2]; exact w)⟩
      · split at w
        · rename_i z e1
          exact .inl (.inr ⟨z, by rw [asStr_ok rv e1], w.1, k _ _ _ H PX.refl rv_int rm w.2⟩)
        · split at w
          · rename_i ds e1
            obtain ⟨a, vs, rfl, s1, d1⟩ := asQ_ok rv rm e1
            exact .inl (.inl ⟨a, vs, rfl, s1, by rw [dps_len d1]; exact k _ _ _ H PX.refl rv_int rm w⟩)
          · exact w.elim
    · exact w.elim
/-- list(x) -/
def rfList : DRF := fun xs h Q => match xs with
  | [x] => match asQ h x with
    | some ds => Q ds h
    | none => False
  | _ => False
theorem lf_list : LRF K Γ rfList (fun xs H Q => ∃ p ys, xs = [.ref p] ∧ (SqL K H p ys ∨ SqT K H p ys) ∧ ∀ l, H l = none → Q (.ref l) (upd H l (.lst ys))) := by
  refine ⟨fun xs h Q Q' k w => ?_, fun xs vs H h C Q r rm w k => ?_⟩
  · unfold rfList at w ⊢
    split at w
    · split at w
      · exact k _ _ w
      · exact w
    · exact w
  · unfold rfList at w
    split at w
    · obtain ⟨v, rfl, rv⟩ := rvs1 r
      split at w
      · rename_i ds e1
        obtain ⟨a, vs, rfl, s1, d1⟩ := asQ_ok rv rm e1
        exact ⟨a, vs, rfl, s1, fun l hl => k _ _ _ H l PX.refl d1 rm w hl⟩
      · exact w.elim
    · exact w.elim
/-- tuple(x) -/
def rdTuple : DRA := fun xs h Q => match xs with
  | [x] => match asQ h x with
    | some ds => Q (.d (.tuple ds)) h
    | none => False
  | _ => False
theorem la_tuple : LRA K Γ rdTuple (fun xs H Q => ∃ p ys, xs = [.ref p] ∧ ((SqL K H p ys ∧ ∀ l, H l = none → Q (.ref l) (upd H l (.tup ys))) ∨ (SqT K H p ys ∧ Q (.ref p) H))) := by
  refine ⟨fun xs h Q Q' k w => ?_, fun xs vs H h C Q r rm w k => ?_⟩
  · unfold rdTuple at w ⊢
    split at w
    · split at w
      · exact k _ _ w
      · exact w
    · exact w
  · unfold rdTuple at w
    split at w
    · rename_i x
      obtain ⟨v, rfl, rv⟩ := rvs1 r
      split at w
      · rename_i ds e1
        unfold asQ at e1
        split at e1
        · rename_i ds' e2
          cases e1
          obtain ⟨a, vs, rfl, s1, d1⟩ := asL_ok rv rm e2
          refine ⟨a, vs, rfl, .inl ⟨s1, fun l hl => ?_⟩⟩
          obtain ⟨p1, r1, v1⟩ := new_tup hl rm d1
          exact k _ _ _ _ p1 v1 r1 w
        · obtain ⟨a, vs, rfl, s1, d1⟩ := asT_ok rv e1
          refine ⟨a, vs, rfl, .inr ⟨s1, ?_⟩⟩
          cases x with
          | own _ => cases e1
          | d x => cases x with
            | tuple ys => cases e1; exact k _ _ _ H PX.refl rv rm w
            | _ => cases e1
      · exact w.elim
    · exact w.elim
/-- int(b), int(n) -/
def rdInt : DRA := fun xs h Q => match xs with
  | [x] => match asInt x with
    | some i => Q (.d (.int i)) h
    | none => match asBool x with
      | some b => Q (.d (.int (if b then 1 else 0))) h
      | none => False
  | _ => False
theorem la_int : LRA K Γ rdInt (fun xs H Q => (∃ i, xs = [.int i] ∧ Q (.int i) H) ∨ ∃ k, xs = [.bl k] ∧ Q (.int (if k then 1 else 0)) H) := by
  refine ⟨fun xs h Q Q' k w => ?_, fun xs vs H h C Q r rm w k => ?_⟩
  · unfold rdInt at w ⊢
    split at w
    · split at w
      · exact k _ _ w
      · split at w
        · exact k _ _ w
        · exact w
    · exact w
  · unfold rdInt at w
    split at w
    · obtain ⟨v, rfl, rv⟩ := rvs1 r
      split at w
      · rename_i i e1
        exact .inl ⟨i, by rw [asInt_ok rv e1], k _ _ _ H PX.refl rv_int rm w⟩
      · split at w
        · rename_i b e1
          exact .inr ⟨b, by rw [asBool_ok rv e1], k _ _ _ H PX.refl rv_int rm w⟩
        · exact w.elim
    · exact w.elim
/-- all, any of a list of truths -/
def bools : List PyData → Option (List Bool)
  | [] => some []
  | .bool b :: r => match bools r with
    | some bs => some (b :: bs)
    | none => none
  | _ :: _ => none
theorem bools_ok {H : Hp} : ∀ {ds : List PyData} {vs : List V} {bs : List Bool}, DpAll K H vs ds → bools ds = some bs → vs = bs.map V.bl
  | [], _, _, h, e => by cases h; cases e; rfl
  | d :: r, _, bs, h, e => by
    cases h with
    | cons h1 h2 =>
      cases d with
      | bool b =>
        unfold bools at e
        split at e
        · rename_i bs' e'
          cases e
          cases h1
          rw [bools_ok h2 e']
          rfl
        · cases e
      | _ => cases e
def rdQ (f : List Bool → Bool) : DRA := fun xs h Q => match xs with
  | [x] => match asL h x with
    | some ds => match bools ds with
      | some bs => Q (.d (.bool (f bs))) h
      | none => False
    | none => False
  | _ => False
theorem la_q {f : List Bool → Bool} : LRA K Γ (rdQ f) (fun vs H Q => ∃ (a : Addr) (bs : List Bool), vs = [V.ref a] ∧ SqL K H a (bs.map V.bl) ∧ Q (.bl (f bs)) H) := by
  refine ⟨fun xs h Q Q' k w => ?_, fun xs vs H h C Q r rm w k => ?_⟩
  · unfold rdQ at w ⊢
    split at w
    · split at w
      · split at w
        · exact k _ _ w
        · exact w
      · exact w
    · exact w
  · unfold rdQ at w
    split at w
    · obtain ⟨v, rfl, rv⟩ := rvs1 r
      split at w
      · rename_i ds e1
        split at w
        · rename_i bs e2
          obtain ⟨a, vs, rfl, s1, d1⟩ := asL_ok rv rm e1
          rw [bools_ok d1 e2] at s1
          exact ⟨a, bs, rfl, s1, k _ _ _ H PX.refl rv_bl rm w⟩
        · exact w.elim
      · exact w.elim
    · exact w.elim
abbrev rdAll : DRA := rdQ fun bs => bs.all id
theorem la_all : LRA K Γ rdAll (rAll K) := la_q
end

section
variable {X : Cx} {a b c e : Expr} {pos p2 : Pos} {ta tb tc te : DTE} {t : DTA} {es : List Expr}
def rgD (a b : Int) : List PyData := (List.range (b - a).toNat).map fun i => PyData.int (a + (i : Nat))
def fLstRg1 (ta : DTE) : DTF := fun σ h Q => ta σ h fun x h1 => match asInt x with
  | some n => n ≤ 16777216 ∧ -16777216 ≤ n ∧ Q (rgD 0 n) h1
  | none => False
def fLstRg2 (ta tb : DTE) : DTF := fun σ h Q => ta σ h fun x h1 => tb σ h1 fun y h2 => match asInt x, asInt y with
  | some n, some m => (0 ≤ n ∧ n ≤ 16777216 ∧ -16777216 ≤ m ∧ m ≤ 16777216) ∧ Q (rgD n m) h2
  | _, _ => False
end

abbrev DRM := SV → List SV → MH → DK → Prop
structure LRM (K : PySem.W.Frag) (Γ : GI) (r' : DRM) (r : V → List V → Hp → VK → Prop) : Prop where
  mono : ∀ x xs h (Q Q' : DK), (∀ z h', Q z h' → Q' z h') → r' x xs h Q → r' x xs h Q'
  run : ∀ x v xs vs H h (C : DK) (Q : VK), RV K Γ H h x v → RVs K Γ H h xs vs → RM K Γ H h → r' x xs h C → (∀ z h' w H', PX Γ H h H' h' → RV K Γ H' h' z w → RM K Γ H' h' → C z h' → Q w H') → r v vs H Q
def dML (r : DRM) (to : DTE) (t : DTA) : DTE := fun σ h Q => to σ h fun x h1 => match asL h1 x with
  | some _ => t σ h1 fun xs h2 => r x xs h2 Q
  | none => False
section
variable {X : Cx} {a b c e o : Expr} {pos p2 apos cpos : Pos} {ta tb tc te to : DTE} {t : DTA} {es : List Expr} {id : String} {name : Str} {r : V → List V → Hp → VK → Prop} {r' : DRM}
theorem mono_ML (mr : ∀ x xs h (Q Q' : DK), (∀ z h', Q z h' → Q' z h') → r' x xs h Q → r' x xs h Q') (mo : Mono to) (mt : Mono t) : Mono (dML r' to t) := fun σ h Q Q' k w => mo _ _ _ _ (fun x h1 w1 => by
  split at w1
  · exact mt _ _ _ _ (fun xs h2 w2 => mr _ _ _ _ _ k w2) w1
  · exact w1) w
theorem de_mL (pa : PlainAttrs "list") (slot : Slot "list" name id) (hty : typeOf (.builtin id) = pure (.type "method_descriptor")) (hm : MtR X id r) (l : LRM X.K Γ r' r) (ho : DE X Γ o to) (ha : DA X Γ (e :: es) t)
    (hbase : attributeBase o name X.env (eval o X.env) = eval o X.env := by rfl)
    (hfew : ((backTo cpos (starEach (e :: es) X.env)).all (fun x => !x.1) && (backToKw cpos (keywordEach [] X.env)).all (fun x => x.1.isSome)
      && decide ((e :: es).length + ([] : List Keyword).length + (if ([] : List Keyword).isEmpty then 0 else 1) < 30)) = true := by rfl)
    (hline : (apos.endLine == cpos.line) = true := by rfl) (hs : starEach (e :: es) X.env = (false, eval e X.env) :: starEach es X.env := by rfl) (hplain : (backTo cpos (starEach es X.env)).any (·.1) = false := by rfl) :
    DE X Γ (.Call (.Attribute o name apos) (e :: es) [] cpos) (dML r' to t) :=
  ⟨mono_ML l.mono ho.mono ha.mono, pe_imp (pe_bm pa slot hty hm ho.pe ha.pa hbase hfew hline hs hplain) fun σ H Q ⟨σd, h, rs, rm, w⟩ => lift_mk ho.mono rs rm w fun x h1 v H1 px rs1 rv rm1 w1 => by
    split at w1
    · rename_i ds e1
      obtain ⟨a, vs, rfl, s1, d1⟩ := asL_ok rv rm1 e1
      refine ⟨.inl ⟨rfl, vs, s1⟩, lift_mk ha.mono rs1 rm1 w1 fun xs h2 us H2 px2 rs2 rus rm2 w2 => ?_⟩
      exact l.run x _ xs us H2 h2 _ Q (rv.up px2) rus rm2 w2 fun z h' w' H' px' rz rm' q => q _ _ ((px.trans px2).trans px') rz rm'
    · exact w1.elim⟩
end
/-- one's own list -/
def ownL (h : MH) : SV → Option (Addr × List PyData)
  | .own a => match h a with
    | some (.lst xs) => some (a, xs)
    | _ => none
  | _ => none
theorem ownL_ok {h : MH} {x : SV} {a : Addr} {xs : List PyData} (e : ownL h x = some (a, xs)) : x = .own a ∧ h a = some (.lst xs) := by
  cases x with
  | d _ => cases e
  | own b =>
    cases q : h b with
    | none => simp only [ownL, q] at e; cases e
    | some m => cases m with
      | lst ys => simp only [ownL, q] at e; cases e; exact ⟨rfl, q⟩
      | _ => simp only [ownL, q] at e; cases e
def rdAppend : DRM := fun x xs h Q => match xs with
  | [y] => match fz1 y h with
    | some (d, h1) => match ownL h1 x with
      | some (a, ds) => ds.length < sizeLine ∧ Q (.d .none) (mput h1 a (.lst (ds ++ [d])))
      | none => False
    | none => False
  | _ => False
section
variable {K : PySem.W.Frag}
theorem lm_append : LRM K Γ rdAppend rAppend := by
  refine ⟨fun x xs h Q Q' k w => ?_, fun x v xs vs H h C Q rv r rm w k => ?_⟩
  · unfold rdAppend at w ⊢
    split at w
    · split at w
      · split at w
        · exact ⟨w.1, k _ _ w.2⟩
        · exact w
      · exact w
    · exact w
  · unfold rdAppend at w
    split at w
    · obtain ⟨u, rfl, ru⟩ := rvs1 r
      split at w
      · rename_i d h1 e1
        split at w
        · rename_i a ds e2
          obtain ⟨ex, ea⟩ := ownL_ok e2
          subst ex
          obtain ⟨px, rm1, rd⟩ := fz1_ok ru rm e1
          have ev : v = .ref a := rv
          subst ev
          obtain ⟨ws, f1, f2⟩ := rm1.ob a _ ea
          refine ⟨a, ws, u, rfl, rfl, f1, by rw [dps_len f2]; exact w.1, ?_⟩
          exact k _ _ _ _ (px.trans (put_px ea rm1)) rv_non (put_rm ea rm1 (dps_app f2 (.cons rd .nil))) w.2
        · exact w.elim
      · exact w.elim
    · exact w.elim
end
end DL

namespace DL
open PySem PySem.Spec PyProof.Rows L2
set_option autoImplicit true

theorem DF.toOwn {X : Cx} {e : Expr} {t : DTF} (f : DF X Γ e t) : DE X Γ e (fun σ h Q => t σ h fun ds h1 => ∀ p, h1 p = none → Q (.own p) (mput h1 p (.lst ds))) :=
  ⟨fun σ h Q Q' k w => f.mono _ _ _ _ (fun ds h1 w1 p hp => k _ _ (w1 p hp)) w, pe_imp f.pe fun σ H Q ⟨σd, h, rs, rm, w⟩ => ⟨σd, h, rs, rm, f.mono _ _ _ _ (fun ds h' q ws H' p px hd rm' n => by
    exact q p (rm'.tracked n) _ _ (px.trans (own_px n (rm'.tracked n) (rm'.notx n))) rfl (own_rm n rm' hd)) w⟩⟩
def dOwn (t : DTF) : DTE := fun σ h Q => t σ h fun ds h1 => ∀ p, h1 p = none → Q (.own p) (mput h1 p (.lst ds))

structure DEnds.Le (D D' : DEnds) : Prop where
  nx : ∀ σ h, D.nx σ h → D'.nx σ h
  rt : ∀ x h, D.rt x h → D'.rt x h
  bk : ∀ σ h, D.bk σ h → D'.bk σ h
  ct : ∀ σ h, D.ct σ h → D'.ct σ h
def liftE (K : PySem.W.Frag) (Γ : GI) (H0 : Hp) (h0 : MH) (D : Ends) : DEnds where
  nx := fun σd h => ∀ σ H, PX Γ H0 h0 H h → RSt K Γ H h σd σ → RM K Γ H h → D.nx σ H
  rt := fun x h => ∀ v H, PX Γ H0 h0 H h → RV K Γ H h x v → RM K Γ H h → D.rt v H
  bk := fun σd h => ∀ σ H, PX Γ H0 h0 H h → RSt K Γ H h σd σ → RM K Γ H h → D.bk σ H
  ct := fun σd h => ∀ σ H, PX Γ H0 h0 H h → RSt K Γ H h σd σ → RM K Γ H h → D.ct σ H
def liftS (K : PySem.W.Frag) (Γ : GI) (t : DTS) : TS := fun D σ H => ∃ σd h, RSt K Γ H h σd σ ∧ RM K Γ H h ∧ t (liftE K Γ H h D) σd h
def MonoS (t : DTS) : Prop := ∀ D D' σ h, DEnds.Le D D' → t D σ h → t D' σ h
structure DS (X : Cx) (Γ : GI) (st : Stmt) (t : DTS) : Prop where
  mono : MonoS t
  ps : PS X st (liftS X.K Γ t)
structure DSs (X : Cx) (Γ : GI) (st : List Stmt) (t : DTS) : Prop where
  mono : MonoS t
  ps : PSs X st (liftS X.K Γ t)
theorem liftE_up {K : PySem.W.Frag} {H0 H1 : Hp} {h0 h1 : MH} {D : Ends} (p : PX Γ H0 h0 H1 h1) : DEnds.Le (liftE K Γ H0 h0 D) (liftE K Γ H1 h1 D) :=
  ⟨fun _ _ w σ H q => w σ H (p.trans q), fun _ _ w v H q => w v H (p.trans q), fun _ _ w σ H q => w σ H (p.trans q), fun _ _ w σ H q => w σ H (p.trans q)⟩
theorem le_refl {D : DEnds} : DEnds.Le D D := ⟨fun _ _ w => w, fun _ _ w => w, fun _ _ w => w, fun _ _ w => w⟩

section
variable {X : Cx} {a b c e : Expr} {pos p2 : Pos} {ta tb tc te : DTE} {t u : DTS} {st : Stmt} {rest : List Stmt} {es : List Expr}
def dNext : DTS := fun D σ h => D.nx σ h
def dSeq (t u : DTS) : DTS := fun D σ h => t { D with nx := fun σ' h' => u D σ' h' } σ h
theorem mono_seq (mt : MonoS t) (mu : MonoS u) : MonoS (dSeq t u) := fun D D' σ h l w => by
  refine mt _ _ _ _ ?_ w
  exact ⟨fun σ' h' w' => mu _ _ _ _ l w', l.rt, l.bk, l.ct⟩
theorem dss_nil : DSs X Γ [] dNext := ⟨fun D D' σ h l w => l.nx _ _ w, pss_imp pss_nil fun D σ H ⟨σd, h, rs, rm, w⟩ => w σ H PX.refl rs rm⟩
theorem dss_cons (h1 : DS X Γ st t) (h2 : DSs X Γ rest u) : DSs X Γ (st :: rest) (dSeq t u) :=
  ⟨mono_seq h1.mono h2.mono, pss_imp (pss_cons h1.ps h2.ps) fun D σ H ⟨σd, h, rs, rm, w⟩ => ⟨σd, h, rs, rm, by
    refine h1.mono _ _ _ _ ?_ w
    exact ⟨fun σd' h' w' σ' H' px rs' rm' => ⟨σd', h', rs', rm', h2.mono _ _ _ _ (liftE_up px) w'⟩, fun _ _ w' => w', fun _ _ w' => w', fun _ _ w' => w'⟩⟩⟩
theorem dss_one (h1 : DS X Γ st t) : DSs X Γ [st] t := ⟨h1.mono, pss_one h1.ps⟩
def dDrop (te : DTE) : DTS := fun D σ h => te σ h fun _ h1 => D.nx σ h1
theorem ds_expr (he : DE X Γ e te) (hs : swapsWith e none pos.line X.env = pure false := by rfl) : DS X Γ (.Expr e pos) (dDrop te) :=
  ⟨fun D D' σ h l w => he.mono _ _ _ _ (fun _ _ w' => l.nx _ _ w') w, ps_imp (ps_expr he.pe hs) fun D σ H ⟨σd, h, rs, rm, w⟩ => lift_mk he.mono rs rm w fun x h1 v H1 px rs1 rv rm1 w1 => w1 σ H1 px rs1 rm1⟩
def dRet (te : DTE) : DTS := fun D σ h => te σ h D.rt
theorem ds_ret (he : DE X Γ e te) : DS X Γ (.Return (some e) pos) (dRet te) :=
  ⟨fun D D' σ h l w => he.mono _ _ _ _ (fun _ _ w' => l.rt _ _ w') w, ps_imp (ps_ret he.pe) fun D σ H ⟨σd, h, rs, rm, w⟩ => lift_mk he.mono rs rm w fun x h1 v H1 px rs1 rv rm1 w1 => w1 v H1 px rv rm1⟩
/-- return of one's own list as data -/
def dRetF (te : DTE) : DTS := fun D σ h => te σ h fun x h1 => match fz1 x h1 with
  | some (d, h2) => D.rt (.d d) h2
  | none => False
def dRetN : DTS := fun D _ h => D.rt (.d .none) h
def dIfS (c : DTT) (t u : DTS) : DTS := fun D σ h => c σ h fun b h1 => if b = true then t D σ h1 else u D σ h1
theorem mono_ifS {c : DTT} (mc : Mono c) (mt : MonoS t) (mu : MonoS u) : MonoS (dIfS c t u) := fun D D' σ h l w => mc _ _ _ _ (fun b h1 w1 => by
  cases b with
  | true => exact mt _ _ _ _ l w1
  | false => exact mu _ _ _ _ l w1) w
theorem ds_if {c : Expr} {a b : List Stmt} {tc : DTT} (hc : DT X Γ c tc) (ha : DSs X Γ a t) (hb : DSs X Γ b u) : DS X Γ (.If c a b pos) (dIfS tc t u) :=
  ⟨mono_ifS hc.mono ha.mono hb.mono, ps_imp (ps_if hc.pt ha.ps hb.ps) fun D σ H ⟨σd, h, rs, rm, w⟩ => lift_mk hc.mono rs rm w fun b h1 k H1 px rs1 rv rm1 w1 => by
    subst rv
    cases b with
    | true => exact iteT ⟨σd, h1, rs1, rm1, ha.mono _ _ _ _ (liftE_up px) w1⟩
    | false => exact iteF ⟨σd, h1, rs1, rm1, hb.mono _ _ _ _ (liftE_up px) w1⟩⟩
inductive Tg where
  | nm (i : Nat)
  | tup (is : List Nat)
  | star (is : List Nat) (z : Nat)
def Tg.isStar : Tg → Bool
  | .star _ _ => true
  | _ => false
/-- (a, b, .., *r) = a tuple: n names ahead of the star, a new list of the others -/
def gStar (K : PySem.W.Frag) (n : Nat) (t : TGs) : TG := fun v σ H Q => ∃ a xs, v = .ref a ∧ SqT K H a xs ∧ n ≤ xs.length ∧ ∀ D, H D = none → t (xs.take n ++ [.ref D]) σ (upd H D (.lst (xs.drop n))) Q
def rawGs : List Nat → TGs
  | [] => gNil
  | i :: r => gCons (gName i) (rawGs r)
def rawT (K : PySem.W.Frag) : Tg → TG
  | .nm i => gName i
  | .tup is => gTup K is.length (rawGs is)
  | .star is z => gStar K is.length (rawGs (is ++ [z]))
def setAll : List Nat → List PyData → DSt → DSt
  | i :: r, d :: ds, σ => setAll r ds (σ.set i (some (.d d)))
  | _, _, σ => σ
def bindT (g : Tg) (x : SV) (σ : DSt) : Option DSt := match g with
  | .nm i => some (σ.set i (some x))
  | .tup is => match x with
    | .d (.tuple ds) => if ds.length = is.length then some (setAll is ds σ) else none
    | _ => none
  | .star is z => match x with
    | .d (.tuple ds) => if is.length ≤ ds.length then some (setAll (is ++ [z]) (ds.take is.length ++ [.list (ds.drop is.length)]) σ) else none
    | _ => none
def Tg.ix : Tg → List Nat
  | .nm i => [i]
  | .tup is => is
  | .star is z => is ++ [z]
theorem wipe_at {i : Nat} {o : Option V} : ∀ (vs : List Nat) (σ : L2.St), (wipe (σ.set i o) vs).set i none = (wipe σ vs).set i none
  | [], σ => by
    show (σ.set i o).set i none = σ.set i none
    rw [List.set_set]
  | k :: r, σ => by
    show ((wipe (σ.set i o) r).set k none).set i none = ((wipe σ r).set k none).set i none
    by_cases e : k = i
    · subst e
      rw [List.set_set, List.set_set]
      exact wipe_at r σ
    · rw [List.set_comm _ _ e, wipe_at r σ, List.set_comm _ _ e]
theorem wipe_set {σ : L2.St} {i : Nat} {o : Option V} : ∀ {vs : List Nat}, i ∈ vs → wipe (σ.set i o) vs = wipe σ vs
  | [], h => by cases h
  | j :: r, h => by
    show (wipe (σ.set i o) r).set j none = (wipe σ r).set j none
    by_cases e : i = j
    · subst e; exact wipe_at r σ
    · rw [wipe_set (vs := r) (by rcases List.mem_cons.mp h with z | z; exact absurd z e; exact z)]
theorem wipe_wipe {σ : L2.St} : ∀ {vs : List Nat}, wipe (wipe σ vs) vs = wipe σ vs
  | [] => rfl
  | j :: r => by
    show (wipe ((wipe σ r).set j none) r).set j none = (wipe σ r).set j none
    rw [wipe_at r (wipe σ r), wipe_wipe (vs := r)]
theorem rawGs_ok {K : PySem.W.Frag} {H : Hp} {h : MH} {Q : L2.St → Hp → Prop} : ∀ {is : List Nat} {vs : List V} {ds : List PyData} {σd : DSt} {σ : L2.St}, DpAll K (Fz Γ H h) vs ds → ds.length = is.length → RSt K Γ H h σd σ →
    (∀ σ', RSt K Γ H h (setAll is ds σd) σ' → (∀ l, (∀ i ∈ is, i ∈ l) → wipe σ' l = wipe σ l) → Q σ' H) → rawGs is vs σ H Q
  | [], _, [], _, _, hd, _, rs, k => by cases hd; exact ⟨rfl, k _ rs fun _ _ => rfl⟩
  | [], _, _ :: _, _, _, _, hl, _, _ => by simp at hl
  | _ :: _, _, [], _, _, _, hl, _, _ => by simp at hl
  | i :: r, _, d :: ds, σd, σ, hd, hl, rs, k => by
    cases hd with
    | cons h1 h2 =>
      refine ⟨_, _, rfl, ?_⟩
      exact rawGs_ok h2 (by simpa using hl) (rs.set (show RV K Γ H h (.d d) _ from h1)) fun σ' rs' hw => k σ' rs' fun l hl' => by
        rw [hw l fun j hj => hl' j (List.mem_cons_of_mem _ hj), wipe_set (hl' i List.mem_cons_self)]
theorem rawT_okS {K : PySem.W.Frag} {H : Hp} {h : MH} {g : Tg} {x : SV} {v : V} {σd σd' : DSt} {σ : L2.St} {Q : L2.St → Hp → Prop} (rv : RV K Γ H h x v) (rs : RSt K Γ H h σd σ) (rm : RM K Γ H h) (e : bindT g x σd = some σd')
    (k : ∀ σ' H', PX Γ H h H' h → RM K Γ H' h → RSt K Γ H' h σd' σ' → (∀ l, (∀ i ∈ g.ix, i ∈ l) → wipe σ' l = wipe σ l) → Q σ' H') : rawT K g v σ H Q := by
  cases g with
  | nm i =>
    cases e
    exact k _ _ PX.refl rm (rs.set rv) fun l hl => wipe_set (hl i List.mem_cons_self)
  | tup is =>
    cases x with
    | own _ => cases e
    | d x => cases x with
      | tuple ds =>
        have e' : (if ds.length = is.length then some (setAll is ds σd) else none) = some σd' := e
        by_cases q : ds.length = is.length
        · rw [if_pos q] at e'
          cases e'
          have rv' : Dp K (Fz Γ H h) v (.tuple ds) := rv
          cases rv' with
          | @tup a vs _ h1 h2 =>
            exact ⟨_, _, rfl, sqT_up fz_sub h1, by rw [dps_len h2]; exact q, rawGs_ok h2 q rs fun σ' rs' w => k σ' H PX.refl rm rs' w⟩
        · rw [if_neg q] at e'; cases e'
      | _ => cases e
  | star is z =>
    cases x with
    | own _ => cases e
    | d x => cases x with
      | tuple ds =>
        have e' : (if is.length ≤ ds.length then some (setAll (is ++ [z]) (ds.take is.length ++ [.list (ds.drop is.length)]) σd) else none) = some σd' := e
        by_cases q : is.length ≤ ds.length
        · rw [if_pos q] at e'
          cases e'
          have rv' : Dp K (Fz Γ H h) v (.tuple ds) := rv
          cases rv' with
          | @tup a vs _ h1 h2 =>
            refine ⟨_, _, rfl, sqT_up fz_sub h1, by rw [dps_len h2]; exact q, fun D nD => ?_⟩
            have dd : DpAll K (Fz Γ H h) (vs.drop is.length) (ds.drop is.length) := dps_drop _ h2
            have px : PX Γ H h (upd H D (.lst (vs.drop is.length))) h := rm.px nD
            have rm1 : RM K Γ (upd H D (.lst (vs.drop is.length))) h := RM.new nD rm
            have nl : Dp K (Fz Γ (upd H D (.lst (vs.drop is.length))) h) (.ref D) (.list (ds.drop is.length)) := Dp.lst (SqL.of (Fz.of upd_same (rm.tracked nD) (rm.notx nD))) (dps_up px.ex _ _ dd)
            refine rawGs_ok (dps_app (dps_up px.ex _ _ (dps_take is.length h2)) (.cons nl .nil)) (by simp; omega) (rs.up px) fun σ' rs' w => k σ' _ px rm1 rs' w
        · rw [if_neg q] at e'; cases e'
      | _ => cases e
theorem rawT_ok {K : PySem.W.Frag} {H : Hp} {h : MH} {g : Tg} {x : SV} {v : V} {σd σd' : DSt} {σ : L2.St} {Q : L2.St → Hp → Prop} (ns : g.isStar = false) (rv : RV K Γ H h x v) (rs : RSt K Γ H h σd σ) (e : bindT g x σd = some σd')
    (k : ∀ σ', RSt K Γ H h σd' σ' → (∀ l, (∀ i ∈ g.ix, i ∈ l) → wipe σ' l = wipe σ l) → Q σ' H) : rawT K g v σ H Q := by
  cases g with
  | nm i =>
    cases e
    exact k _ (rs.set rv) fun l hl => wipe_set (hl i List.mem_cons_self)
  | star is z => cases ns
  | tup is =>
    cases x with
    | own _ => cases e
    | d x => cases x with
      | tuple ds =>
        have e' : (if ds.length = is.length then some (setAll is ds σd) else none) = some σd' := e
        by_cases q : ds.length = is.length
        · rw [if_pos q] at e'
          cases e'
          have rv' : Dp K (Fz Γ H h) v (.tuple ds) := rv
          cases rv' with
          | @tup a vs _ h1 h2 =>
            exact ⟨_, _, rfl, sqT_up fz_sub h1, by rw [dps_len h2]; exact q, rawGs_ok h2 q rs k⟩
        · rw [if_neg q] at e'; cases e'
      | _ => cases e
structure DG (X : Cx) (tg : Expr) (g : Tg) : Prop where
  pg : PG X tg (rawT X.K g)
structure DGs (X : Cx) (tg : List Expr) (is : List Nat) : Prop where
  pg : PGs X tg (rawGs is)
theorem dg_nm (i : Nat) {x : Str} (hN : X.N.Nodup) (hi : X.N[i]? = some x := by rfl) (hx : Loc X.env.scope x := by first | exact Or.inl rfl | exact Or.inr rfl) (hf : X.fn x = true ∨ X.env.scope.names.lookup x = some .local := by first | exact .inl rfl | exact .inr rfl) : DG X (.Name x pos) (.nm i) := ⟨pg_name hN hi hx hf⟩
theorem dgs_nil : DGs X [] [] := ⟨pgs_nil⟩
theorem dgs_cons {tg : Expr} {tgs : List Expr} {i : Nat} {is : List Nat} (h1 : DG X tg (.nm i)) (h2 : DGs X tgs is) (hs : (assignEach (tg :: tgs) X.env).map (·.2) = assign tg X.env :: (assignEach tgs X.env).map (·.2) := by rfl) : DGs X (tg :: tgs) (i :: is) := ⟨pgs_cons h1.pg h2.pg hs⟩
theorem dg_tup {k : Nat} {is : List Nat} (hc : X.calm = true) (h : DGs X es is) (hn : (assignEach es X.env).length = is.length := by rfl) (hst : (assignEach es X.env).findIdx? (·.1) = none := by rfl) : DG X (.Tuple es k pos) (.tup is) := ⟨pg_tup hc h.pg hn hst⟩

section
variable {prog : Program} {w : World} {A : Around} {EX : Value → Shared → Prop} {s : Shared} {env : Env}
end
/-- target = value -/
def dAsg (te : DTE) (g : Tg) : DTS := fun D σ h => te σ h fun x h1 => match bindT g x σ with
  | some σ' => D.nx σ' h1
  | none => False
theorem mono_asg {g : Tg} (me : Mono te) : MonoS (dAsg te g) := fun D D' σ h l w => me _ _ _ _ (fun x h1 w1 => by
  split at w1
  · exact l.nx _ _ w1
  · exact w1) w
theorem asg_lift {K : PySem.W.Frag} {g : Tg} (me : Mono te) : ∀ D σ H, liftS K Γ (dAsg te g) D σ H → tAsg (liftV K Γ te) (rawT K g) D σ H := fun D σ H ⟨σd, h, rs, rm, w⟩ =>
  lift_mk me rs rm w fun x h1 v H1 px rs1 rv rm1 w1 => by
    split at w1
    · rename_i σ' e1
      exact rawT_okS rv rs1 rm1 e1 fun σr H2 px2 rm2 rs' _ => w1 σr H2 (px.trans px2) rs' rm2
    · exact w1.elim
/-- name = value -/
theorem ds_set (i : Nat) {x : Str} {pos' : Pos} (hN : X.N.Nodup) (he : DE X Γ e te) (hi : X.N[i]? = some x := by rfl) (hx : Loc X.env.scope x := by first | exact Or.inl rfl | exact Or.inr rfl) (hs : swapsWith e (some (.Name x pos')) pos.line X.env = pure false := by rfl)
    (hf : X.fn x = true ∨ X.env.scope.names.lookup x = some .local := by first | exact .inl rfl | exact .inr rfl) : DS X Γ (.Assign [.Name x pos'] e pos) (dAsg te (.nm i)) :=
  ⟨mono_asg he.mono, ps_imp (ps_set hN hi hx he.pe hs hf) (asg_lift (g := .nm i) he.mono)⟩
/-- a, b = x, y -/
def dPar (i j : Nat) (ta : DTA) : DTS := fun D σ h => ta σ h fun xs h1 => match xs with
  | [x, y] => D.nx ((σ.set i (some x)).set j (some y)) h1
  | _ => False
theorem ds_par {i j : Nat} {x y : Str} {a b : Expr} {ta : DTA} {px py pt : Pos} {kt k2 pt2} (hc : X.calm = true) (hN : X.N.Nodup) (ha : DA X Γ [a, b] ta) (hi : X.N[i]? = some x := by rfl) (hj : X.N[j]? = some y := by rfl) (hij : i ≠ j := by decide)
    (hx : X.env.scope.names.lookup x = some .local := by rfl) (hy : X.env.scope.names.lookup y = some .local := by rfl)
    (hw : swappedStores [.Tuple [.Name x px, .Name y py] kt pt] (.Tuple [a, b] k2 pt2) X.env = pure (some [x, y]) := by rfl)
    (hs : swapsWithSole [.Tuple [.Name x px, .Name y py] kt pt] (.Tuple [a, b] k2 pt2) pos.line X.env = pure false := by rfl) :
    DS X Γ (.Assign [.Tuple [.Name x px, .Name y py] kt pt] (.Tuple [a, b] k2 pt2) pos) (dPar i j ta) :=
  ⟨fun D D' σ h l w => ha.mono _ _ _ _ (fun xs h1 w1 => by
    split at w1
    · exact l.nx _ _ w1
    · exact w1) w, ps_imp (ps_par hc hN hi hj hij hx hy ha.pa hw hs) fun D σ H ⟨σd, h, rs, rm, w⟩ => lift_mk ha.mono rs rm w fun xs h1 vs H1 px rs1 rvs rm1 w1 => by
      split at w1
      · obtain ⟨v, u, rfl, rv, ru⟩ := rvs2 rvs
        exact ⟨v, u, rfl, w1 _ H1 px ((rs1.set rv).set ru) rm1⟩
      · exact w1.elim⟩
def dPar3 (i j l : Nat) (ta : DTA) : DTS := fun D σ h => ta σ h fun xs h1 => match xs with
  | [x, y, z] => D.nx (((σ.set i (some x)).set j (some y)).set l (some z)) h1
  | _ => False
theorem ds_par3 {i j l : Nat} {x y z : Str} {a b c : Expr} {ta : DTA} {px py pz pt : Pos} {kt k2 pt2} (hc : X.calm = true) (hN : X.N.Nodup) (ha : DA X Γ [a, b, c] ta) (hi : X.N[i]? = some x := by rfl) (hj : X.N[j]? = some y := by rfl) (hl : X.N[l]? = some z := by rfl) (hij : i ≠ j := by decide) (hil : i ≠ l := by decide) (hjl : j ≠ l := by decide)
    (hx : X.env.scope.names.lookup x = some .local := by rfl) (hy : X.env.scope.names.lookup y = some .local := by rfl) (hz : X.env.scope.names.lookup z = some .local := by rfl)
    (hw : swappedStores [.Tuple [.Name x px, .Name y py, .Name z pz] kt pt] (.Tuple [a, b, c] k2 pt2) X.env = pure (some [x, y, z]) := by rfl)
    (hs : swapsWithSole [.Tuple [.Name x px, .Name y py, .Name z pz] kt pt] (.Tuple [a, b, c] k2 pt2) pos.line X.env = pure false := by rfl) :
    DS X Γ (.Assign [.Tuple [.Name x px, .Name y py, .Name z pz] kt pt] (.Tuple [a, b, c] k2 pt2) pos) (dPar3 i j l ta) :=
  ⟨fun D D' σ h l w => ha.mono _ _ _ _ (fun xs h1 w1 => by
    split at w1
    · exact l.nx _ _ w1
    · exact w1) w, ps_imp (ps_par3 hc hN hi hj hl hij hil hjl hx hy hz ha.pa hw hs) fun D σ H ⟨σd, h, rs, rm, w⟩ => lift_mk ha.mono rs rm w fun xs h1 vs H1 px rs1 rvs rm1 w1 => by
      split at w1
      · cases rvs with
        | cons rv t => cases t with
          | cons ru t => cases t with
            | cons rw' t => cases t; exact ⟨_, _, _, rfl, w1 _ H1 px (((rs1.set rv).set ru).set rw') rm1⟩
      · exact w1.elim⟩
/-- what a store to a subscript makes of what is one's own -/
def setO (o : MO) (i y : SV) : Option MO := match o with
  | .seq xs => match asInt i with
    | some k => match ixN xs.length k with
      | some j => some (.seq (xs.set j y))
      | none => none
    | none => none
  | .dct ps => match asKey i with
    | some k => if Nat.blt ps.length 16777216 = true then some (.dct (putS ps k y)) else none
    | none => none
  | _ => none
theorem pairs_set {α β : Type} {R : α → β → Prop} {a : α} {b : β} (r : R a b) : ∀ {l : List α} {m : List β} (j : Nat), Paired R l m → Paired R (l.set j a) (m.set j b)
  | _, _, _, .nil => .nil
  | _, _, 0, .cons _ t => .cons r t
  | _, _, j + 1, .cons h t => .cons h (pairs_set r j t)
def rSetG (o i v : V) (H : Hp) (Q : Hp → Prop) : Prop := rSetL o i v H Q ∨ rSetD o i v H Q
theorem set_G {X : Cx} (hu : X.A.units + 1 < cLine) : PSet X rSetG := by
  intro pins s σ H o i v ov iv u Q I ro ri rv h
  rcases h with h | h
  · exact set_list pins s σ H o i v ov iv u Q I ro ri rv h
  · exact set_dict hu pins s σ H o i v ov iv u Q I ro ri rv h
theorem setO_ok {K : PySem.W.Frag} {Γ : GI} {H : Hp} {h : MH} {x i y : SV} {u v w : V} {p : Addr × MO} {o : MO} (rm : RM K Γ H h) (rx : RV K Γ H h x u) (ri : RV K Γ H h i v) (ry : RV K Γ H h y w) (e : ownO h x = some p) (e2 : setO p.2 i y = some o) {Q : Hp → Prop}
    (k : ∀ H', PX Γ H h H' (mput h p.1 o) → RM K Γ H' (mput h p.1 o) → Q H') : rSetG u v w H Q := by
  obtain ⟨ex, ea⟩ := ownO_ok e
  subst ex
  have ev : u = .ref p.1 := rx
  subst ev
  have ry' : RVF K (Fz Γ H h) y w := by cases y <;> exact ry
  obtain ⟨u0, f1, f2⟩ := ro_at (rm.ob _ _ ea)
  obtain ⟨a, m⟩ := p
  simp only at e2 k f1 f2 ea
  unfold setO at e2
  split at e2
  · split at e2
    · rename_i j0 e3
      split at e2
      · rename_i j e4
        cases e2
        cases u0 <;> first | exact f2.elim | skip
        rename_i vs
        refine .inl ⟨a, vs, j0, j, rfl, asInt_ok ri e3, f1, by rw [← pairs_len f2]; exact e4, ?_⟩
        exact k _ (put_px ea rm) (put_rmG ea rm (show Paired _ _ _ from pairs_set ry' j f2))
      · cases e2
    · cases e2
  · split at e2
    · rename_i j0 e3
      split at e2
      · rename_i e4
        cases e2
        cases u0 <;> first | exact f2.elim | skip
        rename_i kvs
        refine .inr ⟨a, _, rfl, ?_, k _ (put_px (o := .dK (putK kvs j0 w)) ea rm) (put_rmG ea rm (show Paired _ _ _ from putS_ok f2 ry'))⟩
        rw [asKey_ok ri e3]
        exact DPut.k f1 (by rw [← pairs_len f2, sizeLine_eq]; simpa using e4)
      · cases e2
    · cases e2
  · cases e2
/-- x[i] = e, x one's own -/
def dSetIx (te to ti : DTE) : DTS := fun D σ h => te σ h fun y h1 => to σ h1 fun x h2 => ti σ h2 fun i h3 => match ownO h3 x with
  | some p => match setO p.2 i y with
    | some o => D.nx σ (mput h3 p.1 o)
    | none => False
  | none => match fz1 y h3 with
    | some (d, h4) => match ownL h4 x, asInt i with
      | some (a, ds), some k => match ixN ds.length k with
        | some j => D.nx σ (mput h4 a (.lst (ds.set j d)))
        | none => False
      | _, _ => False
    | none => False
theorem ds_setIx {o i e : Expr} {to ti te : DTE} {p3 : Pos} (hu : X.A.units + 1 < cLine) (he : DE X Γ e te) (ho : DE X Γ o to) (hi : DE X Γ i ti)
    (ha : ∀ v, assign (.Subscript o i p3) X.env v = (do
      let ov ← holding [v] (eval o X.env)
      let iv ← holding [v, ov] (eval i X.env)
      standAt p3
      holding [v, ov, iv] (setItem ov iv v)
      release [v, ov, iv] []) := by intro _; rfl)
    (hs : swapsWithSole [.Subscript o i p3] e pos.line X.env = pure false := by rfl) (hw : swappedStores [.Subscript o i p3] e X.env = pure none := by rfl)
    (h1 : (assignEach [.Subscript o i p3] X.env).map (·.2) = [assign (.Subscript o i p3) X.env] := by rfl) : DS X Γ (.Assign [.Subscript o i p3] e pos) (dSetIx te to ti) :=
  ⟨fun D D' σ h l w => he.mono _ _ _ _ (fun y h1 w1 => ho.mono _ _ _ _ (fun x h2 w2 => hi.mono _ _ _ _ (fun k h3 w3 => by
    split at w3
    · split at w3
      · exact l.nx _ _ w3
      · exact w3
    · split at w3
      · split at w3
        · split at w3
          · exact l.nx _ _ w3
          · exact w3
        · exact w3
      · exact w3) w2) w1) w, ps_imp (ps_asg he.pe (pg_sub ho.pe hi.pe (set_G hu) ha) hs hw h1) fun D σ H ⟨σd, h, rs, rm, w⟩ =>
    lift_mk he.mono rs rm w fun y h1 yv H1 px rs1 ry rm1 w1 => lift_mk ho.mono rs1 rm1 w1 fun x h2 xv H2 px2 rs2 rx rm2 w2 => lift_mk hi.mono rs2 rm2 w2 fun k h3 kv H3 px3 rs3 rk rm3 w3 => by
      split at w3
      · rename_i p e0
        split at w3
        · rename_i o' e1
          exact setO_ok rm3 (rx.up px3) rk ((ry.up px2).up px3) e0 e1 fun H' px5 rm5 => w3 _ _ (((px.trans px2).trans px3).trans px5) (rs3.up px5) rm5
        · exact w3.elim
      · split at w3
        · rename_i d h4 e1
          obtain ⟨p4, rm4, rd⟩ := fz1_ok ((ry.up px2).up px3) rm3 e1
          split at w3
          · rename_i a ds j0 e2 e3
            split at w3
            · rename_i j e4
              obtain ⟨ex, ea⟩ := ownL_ok e2
              subst ex
              have ev : xv = .ref a := rx
              subst ev
              obtain ⟨ws, f1, f2⟩ := rm4.ob a _ ea
              have px5 : PX Γ H3 h4 (upd H3 a (.lst (ws.set j yv))) (mput h4 a (.lst (ds.set j d))) := put_px ea rm4
              refine .inl ⟨a, ws, j0, j, rfl, asInt_ok rk e3, f1, by rw [dps_len f2]; exact e4, ?_⟩
              exact w3 _ _ ((((px.trans px2).trans px3).trans p4).trans px5) ((rs3.up p4).up px5) (put_rm ea rm4 (dps_set j rd f2))
            · exact w3.elim
          · exact w3.elim
        · exact w3.elim⟩
theorem slot_get {σ : DSt} {i : Nat} {y : SV} (hy : slot σ i = some y) : σ[i]? = some (some y) := by
  unfold slot at hy
  cases q : σ[i]? with
  | none => rw [q] at hy; cases hy
  | some o => rw [q] at hy; subst hy; rfl
end
end DL

namespace DL
open PySem PySem.Spec PyProof.Rows L2
set_option autoImplicit true

/-- what the iterator J gives, while what is known (F) stands: the things ds -/
def YD (K : PySem.W.Frag) (F : Hp) (d : PyData) (H : Hp) (x : V) (H' : Hp) : Prop :=
  (H' = H ∧ Dp K F x d) ∨ ∃ T a b da db, x = .ref T ∧ H T = none ∧ H' = upd H T (.tup [a, b]) ∧ d = .tuple [da, db] ∧ Dp K F a da ∧ Dp K F b db
def Gives (K : PySem.W.Frag) (F : Hp) (J : It) (ds : List PyData) : Prop :=
  Walk J ds.length (fun H => Sub F H) fun i H x H' => Sub F H ∧ ∃ d, ds[i]? = some d ∧ YD K F d H x H'
abbrev DTI := DSt → MH → (List PyData → MH → Prop) → Prop
def liftI (K : PySem.W.Frag) (Γ : GI) (w : DTI) : TI := fun σ H R => ∃ σd h, RSt K Γ H h σd σ ∧ RM K Γ H h ∧ w σd h fun ds h' => ∀ J H', PX Γ H h H' h' → RM K Γ H' h' → Gives K (Fz Γ H' h') J ds → R J H'
structure DWk (X : Cx) (Γ : GI) (tg iter : Expr) (w : DTI) : Prop where
  mono : Mono w
  pi : PI X tg iter (liftI X.K Γ w)
theorem pi_imp {X : Cx} {tg e : Expr} {t t' : TI} (p : PI X tg e t) (k : ∀ σ H Q, t' σ H Q → t σ H Q) : PI X tg e t' := ⟨fun pins s σ H Q I w => p.run pins s σ H Q I (k σ H Q w)⟩
theorem gives_list {K : PySem.W.Frag} {F : Hp} {a : Addr} {vs : List V} {ds : List PyData} (h : SqL K F a vs) (r : DpAll K F vs ds) : Gives K F (Itl K a) ds := by
  unfold Gives
  rw [← dps_len r]
  have w0 := walk_list (K := K) (a := a) (xs := vs)
  refine ⟨fun i H hi s => w0.goes i H hi (sqL_up s h), fun H s => w0.stops H (sqL_up s h), fun i H x H' hi s y => ⟨s, ?_⟩⟩
  obtain ⟨e, e2⟩ := w0.yields i H x H' hi (sqL_up s h) y
  obtain ⟨d, e3, e4⟩ := dps_getv r e2
  exact ⟨d, e3, .inl ⟨e, e4⟩⟩
theorem gives_tup {K : PySem.W.Frag} {F : Hp} {a : Addr} {vs : List V} {ds : List PyData} (h : SqT K F a vs) (r : DpAll K F vs ds) : Gives K F (Itt K a) ds := by
  unfold Gives
  rw [← dps_len r]
  have w0 := walk_tup (K := K) (a := a) (xs := vs)
  refine ⟨fun i H hi s => w0.goes i H hi (sqT_up s h), fun H s => w0.stops H (sqT_up s h), fun i H x H' hi s y => ⟨s, ?_⟩⟩
  obtain ⟨e, e2⟩ := w0.yields i H x H' hi (sqT_up s h) y
  obtain ⟨d, e3, e4⟩ := dps_getv r e2
  exact ⟨d, e3, .inl ⟨e, e4⟩⟩
theorem rgD_get {a b : Int} {i : Nat} (h : i < (b - a).toNat) : (rgD a b)[i]? = some (.int (a + (i : Nat))) := by
  unfold rgD
  rw [List.getElem?_map, List.getElem?_range h]
  rfl
theorem rgD_length (a b : Int) : (rgD a b).length = (b - a).toNat := by unfold rgD; rw [List.length_map, List.length_range]
theorem gives_range {K : PySem.W.Frag} {F : Hp} {a b : Int} : Gives K F (Itr a (b - a).toNat) (rgD a b) := by
  unfold Gives
  rw [rgD_length]
  have w0 := walk_range (lo := a) (n := (b - a).toNat)
  refine ⟨fun i H hi _ => w0.goes i H hi trivial, fun H _ => w0.stops H trivial, fun i H x H' hi s y => ⟨s, ?_⟩⟩
  obtain ⟨e, e2⟩ := w0.yields i H x H' hi trivial y
  exact ⟨_, rgD_get hi, .inl ⟨e, by rw [e2]; exact .int _⟩⟩
/-- a list or a tuple -/
def iSq (K : PySem.W.Frag) (tl : TE) : TI := fun σ H R => tl σ H fun x H1 => ∃ a, x = .ref a ∧ ((∃ xs, SqL K H1 a xs ∧ R (Itl K a) H1) ∨ (∃ xs, SqT K H1 a xs ∧ R (Itt K a) H1))
section
variable {X : Cx} {a b c e : Expr} {pos p2 : Pos} {ta tb tc te : DTE} {tg : Expr}
theorem pi_sq {l : Expr} {tl : TE} (hl : PE X l tl) : PI X tg l (iSq X.K tl) := by
  constructor
  intro pins s σ H R I hw
  refine thn (hl.run pins s σ H _ I hw) ?_
  rintro v s1 ⟨x, H1, I1, r1, a, ex, q⟩
  subst ex
  cases r1
  have fresh : ∀ b, b ∈ [s1.heap.objs.size] → FpOk X pins H1 b := fun b hb => by
    rw [List.mem_singleton.mp hb]
    exact I1.fpOk (Nat.le_refl _) (I1.hok.fresh (Nat.le_refl _))
  rcases q with ⟨xs, sq, qq⟩ | ⟨xs, sq, qq⟩
  · obtain ⟨its, _, pl, _⟩ := I1.list sq
    refine wpAny_pyIter_list pl.isList ?_
    exact ⟨_, [s1.heap.objs.size], _, _, H1, rfl, I1.kept (t' := s1.toks) (fun b o z => Heap.get?_push_of_some _ z), turn_list a s1.heap.objs.size, ⟨_, Heap.get?_push_size _ rfl, rfl, rfl⟩, fresh, qq⟩
  · obtain ⟨its, _, pl, _⟩ := I1.tuple sq
    refine wpAny_pyIter_tuple (show s1.heap.IsTuple a its.toArray from pl) ?_
    exact ⟨_, [s1.heap.objs.size], _, _, H1, rfl, I1.kept (t' := s1.toks) (fun b o z => Heap.get?_push_of_some _ z), turn_tuple a s1.heap.objs.size, ⟨_, Heap.get?_push_size _ rfl, rfl, rfl⟩, fresh, qq⟩
/-- for x in (a list, a tuple); one's own list is let go -/
def wSeq (te : DTE) : DTI := fun σ h Q => te σ h fun x h1 => match fz1 x h1 with
  | some (.list ds, h2) => Q ds h2
  | some (.tuple ds, h2) => Q ds h2
  | _ => False
theorem dw_seq (he : DE X Γ e te) : DWk X Γ tg e (wSeq te) :=
  ⟨fun σ h Q Q' k w => he.mono _ _ _ _ (fun x h1 w1 => by
    split at w1
    · exact k _ _ w1
    · exact k _ _ w1
    · exact w1) w, pi_imp (pi_sq he.pe) fun σ H R ⟨σd, h, rs, rm, w⟩ => lift_mk he.mono rs rm w fun x h1 v H1 px rs1 rv rm1 w1 => by
      split at w1
      · rename_i ds h2 e1
        obtain ⟨p1, r1, d1⟩ := fz1_ok rv rm1 e1
        cases d1 with
        | @lst a vs _ s1 dd => exact ⟨a, rfl, .inl ⟨vs, sqL_up fz_sub s1, w1 _ _ (px.trans p1) r1 (gives_list s1 dd)⟩⟩
      · rename_i ds h2 e1
        obtain ⟨p1, r1, d1⟩ := fz1_ok rv rm1 e1
        cases d1 with
        | @tup a vs _ s1 dd => exact ⟨a, rfl, .inr ⟨vs, sqT_up fz_sub s1, w1 _ _ (px.trans p1) r1 (gives_tup s1 dd)⟩⟩
      · exact w1.elim⟩
def wRg1 (te : DTE) : DTI := fun σ h Q => te σ h fun x h1 => match asInt x with
  | some n => (-(2 ^ 62) ≤ n ∧ n < 2 ^ 62) ∧ Q (rgD 0 n) h1
  | none => False
theorem dw_rg1 {p : Pos} (hg : Gl X "range") (hm : X.mg "range" = none) (ha : DE X Γ a ta) (hs : starEach [a] X.env = [(false, eval a X.env)] := by rfl) : DWk X Γ tg (.Call (.Name "range" p) [a] [] pos) (wRg1 ta) :=
  ⟨fun σ h Q Q' k w => ha.mono _ _ _ _ (fun x h1 w1 => by
    split at w1
    · exact ⟨w1.1, k _ _ w1.2⟩
    · exact w1) w, pi_imp (pi_range1 hg hm (da_cons ha da_nil hs).pa hs) fun σ H R ⟨σd, h, rs, rm, w⟩ => lift_mk (mono_cons ha.mono fun _ _ _ _ k w => k _ _ w) rs rm (C := fun xs h1 => ∃ x, xs = [x] ∧ match asInt x with
      | some n => (-(2 ^ 62) ≤ n ∧ n < 2 ^ 62) ∧ (∀ J H', PX Γ H h H' h1 → RM X.K Γ H' h1 → Gives X.K (Fz Γ H' h1) J (rgD 0 n) → R J H')
      | none => False) (ha.mono _ _ _ _ (fun x h1 w1 => ⟨x, rfl, w1⟩) w) fun xs h1 vs H1 px rs1 rvs rm1 w1 => by
      obtain ⟨x, rfl, w1⟩ := w1
      obtain ⟨v, rfl, rv⟩ := rvs1 rvs
      split at w1
      · rename_i n e1
        have q := w1.2 _ H1 px rm1 (gives_range (a := 0) (b := n))
        rw [Int.sub_zero] at q
        exact ⟨n, by rw [asInt_ok rv e1], w1.1.1, w1.1.2, q⟩
      · exact w1.elim⟩
def forL (g : Tg) (tb : DTS) (D : DEnds) : List PyData → DSt → MH → Prop
  | [], σ, h => D.nx σ h
  | d :: r, σ, h => match bindT g (.d d) σ with
    | some σ1 => tb { nx := fun σ' h' => forL g tb D r σ' h', ct := fun σ' h' => forL g tb D r σ' h', bk := D.nx, rt := D.rt } σ1 h
    | none => False
def dFor (w : DTI) (g : Tg) (tb : DTS) : DTS := fun D σ h => w σ h fun ds h1 => forL g tb D ds σ h1
theorem forL_le {g : Tg} {tb : DTS} (mb : MonoS tb) {D D' : DEnds} (l : DEnds.Le D D') : ∀ ds σ h, forL g tb D ds σ h → forL g tb D' ds σ h
  | [], _, _, w => l.nx _ _ w
  | d :: r, σ, h, w => by
    unfold forL at w ⊢
    split at w
    · refine mb _ _ _ _ ?_ w
      exact ⟨forL_le mb l r, l.rt, l.nx, forL_le mb l r⟩
    · exact w
theorem yd_in {K : PySem.W.Frag} {F H H' : Hp} {h : MH} {d : PyData} {x : V} (s : Sub F (Fz Γ H h)) (rm : RM K Γ H h) (y : YD K F d H x H') : PX Γ H h H' h ∧ RM K Γ H' h ∧ RV K Γ H' h (.d d) x := by
  rcases y with ⟨rfl, q⟩ | ⟨T, a, b, da, db, rfl, n, rfl, rfl, qa, qb⟩
  · exact ⟨PX.refl, rm, dp_up s _ _ q⟩
  · obtain ⟨p1, r1, v1⟩ := new_tup n rm (.cons (dp_up s _ _ qa) (.cons (dp_up s _ _ qb) .nil))
    exact ⟨p1, r1, v1⟩
theorem ds_for {iter : Expr} {body : List Stmt} {w : DTI} {g : Tg} {tb : DTS} (hp : PassesOwn (model X.prog X.w) X.A X.env X.xe) (hc : X.calm = true) (hi : DWk X Γ tg iter w) (hg : DG X tg g) (hb : DSs X Γ body tb)
    (hs : ∀ x, foldedSetIterable iter X.env x = pure x := by intro _; rfl) : DS X Γ (.For tg iter body [] pos) (dFor w g tb) :=
  ⟨fun D D' σ h l w => hi.mono _ _ _ _ (fun ds h1 w1 => forL_le hb.mono l ds σ h1 w1) w, ps_imp (ps_for hp hc hi.pi hg.pg hb.ps hs) fun D σ H ⟨σd, h, rs, rm, w⟩ =>
    ⟨σd, h, rs, rm, hi.mono _ _ _ _ (fun ds h1 w1 J H1 px rm1 gv => by
      refine for_it gv (fun i σ' H' => ∃ σd' h', PX Γ H1 h1 H' h' ∧ RSt X.K Γ H' h' σd' σ' ∧ RM X.K Γ H' h' ∧ forL g tb (liftE X.K Γ H h D) (ds.drop i) σd' h') ⟨σd, h1, PX.refl, rs.up px, rm1, by rw [List.drop_zero]; exact w1⟩ ?_ ?_ ?_
      · rintro i σ' H' _ ⟨σd', h', px', _, _, _⟩ a o e
        exact fz_sub a o (px'.ex a o e)
      · rintro i x σ' H' H2 hi' ⟨σd', h', px', rs', rm', w'⟩ ⟨_, d, e1, y⟩
        obtain ⟨p2, rm2, rv2⟩ := yd_in px'.ex rm' y
        have hdrop : ds.drop i = d :: ds.drop (i + 1) := by
          obtain ⟨hl, hz⟩ := List.getElem?_eq_some_iff.mp e1
          rw [List.drop_eq_getElem_cons hl, hz]
        rw [hdrop] at w'
        unfold forL at w'
        split at w'
        · rename_i σ1 e2
          refine rawT_okS rv2 (rs'.up p2) rm2 e2 fun σr H3 p2b rm3 rsr _ => ⟨σ1, h', rsr, rm3, ?_⟩
          refine hb.mono _ _ _ _ ?_ w'
          have p3 := (px'.trans p2).trans p2b
          have p4 := px.trans p3
          exact ⟨fun σd2 h2 w2 σ2 Hx q r2 m2 => ⟨σd2, h2, p3.trans q, r2, m2, w2⟩, fun x2 h2 w2 v2 Hx q r2 m2 => w2 v2 Hx (p4.trans q) r2 m2, fun σd2 h2 w2 σ2 Hx q r2 m2 => w2 σ2 Hx (p4.trans q) r2 m2, fun σd2 h2 w2 σ2 Hx q r2 m2 => ⟨σd2, h2, p3.trans q, r2, m2, w2⟩⟩
        · exact w'.elim
      · rintro σ' H' ⟨σd', h', px', rs', rm', w'⟩
        rw [List.drop_length] at w'
        exact w' σ' H' (px.trans px') rs' rm') w⟩⟩

def wipeD (σ : DSt) : List Nat → DSt
  | [] => σ
  | i :: r => (wipeD σ r).set i none
theorem RSt.wipe {K : PySem.W.Frag} {H : Hp} {h : MH} {σd : DSt} {σ : L2.St} (rs : RSt K Γ H h σd σ) : ∀ vs, RSt K Γ H h (wipeD σd vs) (L2.wipe σ vs)
  | [] => rs
  | i :: r => (RSt.wipe rs r).clr none
def lcL (g : Tg) (tt : DTT) (te : DTE) (σ : DSt) : List PyData → List PyData → MH → (List PyData → MH → Prop) → Prop
  | [], acc, h, Q => Q acc h
  | d :: r, acc, h, Q => match bindT g (.d d) σ with
    | some σ1 => tt σ1 h fun b h1 => if b = true then te σ1 h1 fun y h2 => match fz1 y h2 with
        | some (z, h3) => lcL g tt te σ r (acc ++ [z]) h3 Q
        | none => False
      else lcL g tt te σ r acc h1 Q
    | none => False
def fLc (w : DTI) (g : Tg) (tt : DTT) (te : DTE) (vs : List Nat) : DTF := fun σ h Q => w σ h fun ds h1 => ds.length ≤ sizeLine ∧ lcL g tt te (wipeD σ vs) ds [] h1 Q
theorem lcL_mono {g : Tg} {tt : DTT} {te : DTE} {σ : DSt} (mt : Mono tt) (me : Mono te) {Q Q' : List PyData → MH → Prop} (k : ∀ x h, Q x h → Q' x h) : ∀ ds acc h, lcL g tt te σ ds acc h Q → lcL g tt te σ ds acc h Q'
  | [], _, _, w => k _ _ w
  | d :: r, acc, h, w => by
    unfold lcL at w ⊢
    split at w
    · refine mt _ _ _ _ (fun b h1 w1 => ?_) w
      cases b with
      | true =>
        refine me _ _ _ _ (fun y h2 w2 => ?_) w1
        split at w2
        · exact lcL_mono mt me k _ _ _ w2
        · exact w2
      | false => exact lcL_mono mt me k _ _ _ w1
    · exact w
structure DTs (X : Cx) (Γ : GI) (ifs : List Expr) (t : DTT) : Prop where
  mono : Mono t
  pts : PTs X ifs (liftB X.K Γ t)
theorem pts_imp {ifs : List Expr} {t t' : TT} (p : PTs X ifs t) (k : ∀ σ H Q, t' σ H Q → t σ H Q) : PTs X ifs t' := by
  cases p with
  | mk r => exact ⟨fun pins s σ H Q I w => r pins s σ H Q I (k σ H Q w)⟩
def dYes : DTT := fun _ h Q => Q true h
theorem dts_nil : DTs X Γ [] dYes := ⟨fun _ _ _ _ k w => k _ _ w, pts_imp pts_nil fun σ H Q ⟨σd, h, rs, rm, w⟩ => w _ H PX.refl rfl rm⟩
theorem dts_one {t : DTT} (h : DT X Γ c t) : DTs X Γ [c] t := ⟨h.mono, pts_one h.pt⟩
/-- what is being made is not to be read -/
def GI.more (Γ : GI) (D : Addr) : GI where
  x := D :: Γ.x
  T := Γ.T
  G := fun _ _ => True
  st := fun _ _ => trivial
theorem fz_upd {Γ : GI} {H : Hp} {h : MH} {D : Addr} {o : HO} : Fz (Γ.more D) (upd H D o) h = Fz (Γ.more D) H h := by
  funext a
  show Fzx (D :: Γ.x) _ h a = Fzx (D :: Γ.x) _ h a
  unfold Fzx
  by_cases q : a ∈ D :: Γ.x
  · rw [if_pos q, if_pos q]
  · rw [if_neg q, if_neg q, upd_ne fun z => q (by rw [z]; exact List.mem_cons_self)]
def undo (H : Hp) (D : Addr) : Hp := fun a => if a = D then none else H a
theorem undo_ne {H : Hp} {D a : Addr} (n : a ≠ D) : undo H D a = H a := if_neg n
theorem fz_undo {Γ : GI} {H : Hp} {h : MH} {D : Addr} : Fz Γ (undo H D) h = Fz (Γ.more D) H h := by
  funext a
  show Fzx Γ.x _ h a = Fzx (D :: Γ.x) _ h a
  unfold Fzx
  by_cases e : a = D
  · subst e
    rw [if_pos (show a ∈ a :: Γ.x from List.mem_cons_self), show undo H a a = none from if_pos rfl]
    by_cases m : a ∈ Γ.x
    · rw [if_pos m]
    · rw [if_neg m]
      split <;> rfl
  · rw [undo_ne e]
    by_cases q : a ∈ Γ.x
    · rw [if_pos q, if_pos (List.mem_cons_of_mem _ q)]
    · rw [if_neg q, if_neg fun z => (List.mem_cons.mp z).elim e q]
theorem upd_undo {H : Hp} {D : Addr} {o : HO} (e : H D = some o) : upd (undo H D) D o = H := by
  funext a
  by_cases q : a = D
  · subst q; rw [upd_same, e]
  · rw [upd_ne q, undo_ne q]
theorem RSt.eqF {K : PySem.W.Frag} {Γ' : GI} {H H' : Hp} {h h' : MH} {σd : DSt} {σ : L2.St} (e : Sub (Fz Γ H h) (Fz Γ' H' h')) (r : RSt K Γ H h σd σ) : RSt K Γ' H' h' σd σ := ⟨r.1, fun i x q => by
  obtain ⟨v, e1, e2⟩ := r.2 i x q
  refine ⟨v, e1, ?_⟩
  cases x with
  | d x => exact dp_up e _ _ e2
  | own a => exact e2⟩
/-- what holds between two turns of a comprehension -/
structure LcInv (K : PySem.W.Frag) (Γ : GI) (H1 : Hp) (h1 : MH) (D : Addr) (σd : DSt) (σ : L2.St) (i : Nat) (H : Hp) (h : MH) (acc : List PyData) : Prop where
  at_ : ∃ va, H D = some (.lst va) ∧ DpAll K (Fz (Γ.more D) H h) va acc
  ex : Sub (Fz Γ H1 h1) (Fz (Γ.more D) H h)
  kx : ∀ a, a ∈ Γ.x → H a = H1 a
  rm : RM K (Γ.more D) H h
  rs : RSt K (Γ.more D) H h σd σ
  len : acc.length ≤ i
theorem lc_data {K : PySem.W.Frag} {g : Tg} {tt : DTT} {te : DTE} {vs : List Nat} (mt : Mono tt) (me : Mono te) (hix : (g.ix.all (fun i => vs.contains i) && !g.isStar) = true) {σ : L2.St} {H H1 : Hp} {σd : DSt} {h h1 : MH} {Q : VK} {ds : List PyData} {J : It} {D : Addr}
    (rs : RSt K Γ H h σd σ) (px : PX Γ H h H1 h1) (rm1 : RM K Γ H1 h1) (gv : Gives K (Fz Γ H1 h1) J ds) (hD : H1 D = none) (hlen : ds.length ≤ sizeLine)
    (w1 : lcL g tt te (wipeD σd vs) ds [] h1 fun ds h' => ∀ ws H' p, PX Γ H h H' h' → DpAll K (Fz Γ H' h') ws ds → RM K Γ H' h' → H' p = none → Q (.ref p) (upd H' p (.lst ws))) :
    ∃ W : Nat → Nat → Hp → Prop, (∃ m, W 0 m (upd H1 D (.lst []))) ∧ ∀ i m H, W i m H →
      (J.stop i H ∧ Q (.ref D) H) ∨ (J.go i H ∧ ∃ Nx : Hp → Prop, (∀ H', Nx H' → ∃ m', m' < m ∧ W (i + 1) m' H') ∧ ∀ x H', J.yld i H x H' → rawT K g x (L2.wipe σ vs) H' fun σ2 H2 => L2.wipe σ2 vs = L2.wipe σ vs ∧ (∃ Γ' : GI, Γ'.T = Γ.T ∧ liftB K Γ' tt σ2 H2 fun b H3 =>
        if b = true then (∃ Γ' : GI, Γ'.T = Γ.T ∧ liftV K Γ' te σ2 H3 fun y H4 => ∃ acc, H4 D = some (.lst acc) ∧ acc.length < sizeLine ∧ Nx (upd H4 D (.lst (acc ++ [y])))) else Nx H3)) := by
  have hsub : ∀ i, i ∈ g.ix → i ∈ vs := fun i hm => by simpa using List.all_eq_true.mp (Bool.and_eq_true_iff.mp hix).1 i hm
  have hns : g.isStar = false := by simpa using (Bool.and_eq_true_iff.mp hix).2
  have dx : D ∉ Γ.x := rm1.notx hD
  refine lc_it gv (g := rawT K g) (tt := fun σ H Q => ∃ Γ' : GI, Γ'.T = Γ.T ∧ liftB K Γ' tt σ H Q) (te := fun σ H Q => ∃ Γ' : GI, Γ'.T = Γ.T ∧ liftV K Γ' te σ H Q) (vs := vs) (σ := σ) (H1 := H1) (D := D) (Qd := fun H => Q (.ref D) H) (fun i H' => ∃ h' acc, LcInv K Γ H1 h1 D (wipeD σd vs) (L2.wipe σ vs) i H' h' acc ∧ lcL g tt te (wipeD σd vs) (ds.drop i) acc h' (fun ds h' => ∀ ws H' p, PX Γ H h H' h' → DpAll K (Fz Γ H' h') ws ds → RM K Γ H' h' → H' p = none → Q (.ref p) (upd H' p (.lst ws)))) ?_ ?_ ?_ ?_
  · have e0 : Sub (Fz Γ H1 h1) (Fz (Γ.more D) (upd H1 D (.lst [])) h1) := fun a o z => by
      obtain ⟨z1, z2, z3, z4⟩ := Fz.to z
      have ne := ne_of_none z1 hD
      exact Fz.ofH (by rw [upd_ne ne]; exact z1) z2 (fun m => (List.mem_cons.mp m).elim ne z3) z4
    refine ⟨h1, [], ⟨⟨[], upd_same, .nil⟩, e0, fun a m => upd_ne fun z => dx (by rw [← z]; exact m), ⟨fun a m e => ?_, trivial, fun a m => ?_, tabs_upd rm1.tb (.inl hD)⟩, RSt.eqF e0 ((rs.up px).wipe vs), Nat.le_refl _⟩, by rw [List.drop_zero]; exact w1⟩
    · exact ro_up (fun u f1 => by rw [upd_ne (ne_of_none f1 hD)]; exact f1) e0 (rm1.ob a m e)
    · rcases List.mem_cons.mp m with z | z
      · subst z; exact ⟨rm1.tracked hD, [], upd_same⟩
      · rw [upd_ne fun q => dx (by rw [← q]; exact z)]
        exact rm1.nx a z
  · rintro i H' _ ⟨h', acc, inv, _⟩ a o e
    exact fz_sub a o (inv.ex a o e)
  · rintro i x H' H2 hi' ⟨h', acc, inv, w2⟩ ⟨_, d, e1, y⟩
    obtain ⟨p2, rm2, rv2⟩ := yd_in inv.ex inv.rm y
    have hdrop : ds.drop i = d :: ds.drop (i + 1) := by
      obtain ⟨hl, hz⟩ := List.getElem?_eq_some_iff.mp e1
      rw [List.drop_eq_getElem_cons hl, hz]
    rw [hdrop] at w2
    unfold lcL at w2
    -- the turn's end: no item more
    have fin : ∀ (h3 : MH) (H3 : Hp), PX (Γ.more D) H' h' H3 h3 → RM K (Γ.more D) H3 h3 → LcInv K Γ H1 h1 D (wipeD σd vs) (L2.wipe σ vs) (i + 1) H3 h3 acc := fun h3 H3 p3 rm3 => by
      obtain ⟨va, a1, a2⟩ := inv.at_
      exact ⟨⟨va, by rw [p3.kx D List.mem_cons_self]; exact a1, dps_up p3.ex _ _ a2⟩, fun a o z => p3.ex a o (inv.ex a o z), fun a m => (p3.kx a (List.mem_cons_of_mem _ m)).trans (inv.kx a m), rm3, inv.rs.up p3, Nat.le_succ_of_le inv.len⟩
    split at w2
    · rename_i σ1 e2
      refine rawT_ok hns rv2 (inv.rs.up p2) e2 fun σr rsr hwp => ⟨by rw [hwp vs hsub, wipe_wipe], Γ.more D, rfl, ?_⟩
      refine lift_mk mt rsr rm2 w2 fun b h3 k H3 px3 rs3 rb rm3 w3 => ?_
      subst rb
      have p3 := p2.trans px3
      cases b with
      | false => exact iteF ⟨h3, acc, fin h3 H3 p3 rm3, w3⟩
      | true =>
        refine iteT ⟨Γ.more D, rfl, ?_⟩
        refine lift_mk me rs3 rm3 w3 fun y h4 yv H4 px4 rs4 ry rm4 w4 => ?_
        split at w4
        · rename_i z h5 e5
          obtain ⟨p5, rm5, rz⟩ := fz1_ok ry rm4 e5
          have inv5 := fin h5 H4 ((p3.trans px4).trans p5) rm5
          obtain ⟨va, a1, a2⟩ := inv5.at_
          have eF : Fz (Γ.more D) (upd H4 D (.lst (va ++ [yv]))) h5 = Fz (Γ.more D) H4 h5 := fz_upd
          have hl : acc.length < sizeLine := by
            have := inv.len
            omega
          refine ⟨va, a1, by rw [dps_len a2]; exact hl, h5, acc ++ [z], ⟨⟨va ++ [yv], upd_same, ?_⟩, ?_, fun a m => ?_, ⟨fun a m e => ?_, trivial, fun a m => ?_, tabs_upd rm5.tb (.inr ⟨_, a1, .inl rfl⟩)⟩, ?_, ?_⟩, w4⟩
          · rw [eF]; exact dps_app a2 (.cons rz .nil)
          · rw [eF]; exact inv5.ex
          · rw [upd_ne fun q => dx (by rw [← q]; exact m)]; exact inv5.kx a m
          · have z := rm5.ob a m e
            have ne : a ≠ D := fun q => by
              have n := (rm5.nx D List.mem_cons_self).1
              rw [← q, e] at n; cases n
            exact ro_up (fun u f1 => by rw [upd_ne ne]; exact f1) (by rw [eF]; exact fun _ _ q => q) z
          · by_cases q : a = D
            · subst q; exact ⟨(rm5.nx a m).1, _, upd_same⟩
            · rw [upd_ne q]
              exact rm5.nx a m
          · exact RSt.eqF (by rw [eF]; exact fun _ _ z => z) inv5.rs
          · rw [List.length_append, List.length_singleton]
            have := inv.len
            omega
        · exact w4.elim
    · exact w2.elim
  · rintro H' ⟨h', acc, inv, w2⟩
    rw [List.drop_length] at w2
    obtain ⟨va, a1, a2⟩ := inv.at_
    have eF : Fz Γ (undo H' D) h' = Fz (Γ.more D) H' h' := fz_undo
    have hpx : PX Γ H1 h1 (undo H' D) h' := ⟨by show Sub _ (Fz Γ (undo H' D) h'); rw [eF]; exact inv.ex, fun a m => by rw [undo_ne fun q => dx (by rw [← q]; exact m)]; exact inv.kx a m⟩
    have r := w2 va (undo H' D) D (px.trans hpx) (by rw [eF]; exact a2) ⟨fun a m e => ?_, Γ.st hpx rm1.g, fun a m => ?_, tabs_but inv.rm.tb fun b o e n => by rw [undo_ne fun z => by rw [z, a1] at e; cases e; exact n (.inl rfl)]; exact e⟩ (if_pos rfl)
    · rw [upd_undo a1] at r
      exact r
    · have z := inv.rm.ob a m e
      have ne : a ≠ D := fun q => by
        have n := (inv.rm.nx D List.mem_cons_self).1
        rw [← q, e] at n; cases n
      exact ro_up (fun u f1 => by rw [undo_ne ne]; exact f1) (by rw [eF]; exact fun _ _ q => q) z
    · rw [undo_ne fun q => dx (by rw [← q]; exact m)]
      exact inv.rm.nx a (List.mem_cons_of_mem _ m)
theorem lc_ok {K : PySem.W.Frag} {w : DTI} {g : Tg} {tt : DTT} {te : DTE} {vs : List Nat} (hw : Mono w) (mt : Mono tt) (me : Mono te) (hix : (g.ix.all (fun i => vs.contains i) && !g.isStar) = true) : ∀ σ H Q, liftF K Γ (fLc w g tt te vs) σ H Q →
    tLc (liftI K Γ w) (rawT K g) (fun σ H Q => ∃ Γ' : GI, Γ'.T = Γ.T ∧ liftB K Γ' tt σ H Q) (fun σ H Q => ∃ Γ' : GI, Γ'.T = Γ.T ∧ liftV K Γ' te σ H Q) vs σ H Q := by
  rintro σ H Q ⟨σd, h, rs, rm, w0⟩
  exact ⟨σd, h, rs, rm, hw _ _ _ _ (fun ds h1 w1 J H1 px rm1 gv D hD => lc_data mt me hix rs px rm1 gv hD w1.1 w1.2) w0⟩
theorem df_lc {elt iter : Expr} {ifs : List Expr} {scope : Scope} {own : List (Str × Nat)} {w : DTI} {g : Tg} {tt : DTT} {te : DTE} (hc : X.calm = true) (hN : X.N.Nodup) (hi : DWk X Γ tg iter w) (ok : BlkOk X.N X.env.scope scope own)
    (hg : ∀ (s : Shared) (H : Hp) (C : Addr) (cl : List (Str × Addr)) (fp : List Addr), DG (X.blk s H scope (compEnvC scope cl C X.env) fp) tg g) (hix : (g.ix.all (fun i => (own.map (·.2)).contains i) && !g.isStar) = true)
    (ht : ∀ (Γ' : GI), Γ'.T = Γ.T → ∀ (s : Shared) (H : Hp) (C : Addr) (cl : List (Str × Addr)) (fp : List Addr), DTs (X.blk s H scope (compEnvC scope cl C X.env) fp) Γ' ifs tt)
    (he : ∀ (Γ' : GI), Γ'.T = Γ.T → ∀ (s : Shared) (H : Hp) (C : Addr) (cl : List (Str × Addr)) (fp : List Addr), DE (X.blk s H scope (compEnvC scope cl C X.env) fp) Γ' elt te) (hs : ∀ x, foldedSetIterable iter X.env x = pure x := by intro _; rfl) :
    DF X Γ (.ListComp elt [⟨tg, iter, ifs, 0⟩] scope pos) (fLc w g tt te (own.map (·.2))) := by
  have mt : Mono tt := (ht Γ rfl ({} : Shared) (fun _ => none) 0 [] []).mono
  have me : Mono te := (he Γ rfl ({} : Shared) (fun _ => none) 0 [] []).mono
  refine ⟨fun σ h Q Q' k w => hi.mono _ _ _ _ (fun ds h1 w1 => ⟨w1.1, lcL_mono mt me k _ _ _ w1.2⟩) w, ?_⟩
  exact pe_imp (pe_lc (pos := pos) (wi := liftI X.K Γ w) (g := rawT X.K g) hc hN hi.pi ok (fun s H C cl fp => (hg s H C cl fp).pg)
    (fun s H C cl fp => ⟨fun pins s' σ H' Q I ⟨Γ', e, q⟩ => (ht Γ' e s H C cl fp).pts.run pins s' σ H' Q I q⟩) (fun s H C cl fp => ⟨fun pins s' σ H' Q I ⟨Γ', e, q⟩ => (he Γ' e s H C cl fp).pe.run pins s' σ H' Q I q⟩) hs) (lc_ok hi.mono mt me hix)
/-- name = [..] on one line, the name a local: td, what is made of the items -/
theorem liftL_dL {K : PySem.W.Frag} {t : DTF} (m : Mono t) : ∀ σ H Q, liftV K Γ (dL t) σ H Q → liftF K Γ t σ H Q := fun σ H Q ⟨σd, h, rs, rm, w⟩ => ⟨σd, h, rs, rm, m _ _ _ _ (fun ds h' q ws H' p px hd rm' n => by
    obtain ⟨p1, r1, v1⟩ := new_list n rm' hd
    exact q _ _ (px.trans p1) v1 r1) w⟩
theorem ds_lc_ {i : Nat} {y : Str} {py : Pos} {elt iter : Expr} {ifs : List Expr} {scope : Scope} {own : List (Str × Nat)} {spos : Pos} {w : DTI} {g : Tg} {tt : DTT} {te td : DTE} (md : Mono td) (up : ∀ σ H Q, liftV X.K Γ td σ H Q → liftF X.K Γ (fLc w g tt te (own.map (·.2))) σ H Q) (hc : X.calm = true) (hN : X.N.Nodup) (hi : DWk X Γ tg iter w) (ok : BlkOk X.N X.env.scope scope own)
    (hg : ∀ (s : Shared) (H : Hp) (C : Addr) (cl : List (Str × Addr)) (fp : List Addr), DG (X.blk s H scope (compEnvC scope cl C X.env) fp) tg g) (hix : (g.ix.all (fun i => (own.map (·.2)).contains i) && !g.isStar) = true)
    (ht : ∀ (Γ' : GI), Γ'.T = Γ.T → ∀ (s : Shared) (H : Hp) (C : Addr) (cl : List (Str × Addr)) (fp : List Addr), DTs (X.blk s H scope (compEnvC scope cl C X.env) fp) Γ' ifs tt)
    (he : ∀ (Γ' : GI), Γ'.T = Γ.T → ∀ (s : Shared) (H : Hp) (C : Addr) (cl : List (Str × Addr)) (fp : List Addr), DE (X.blk s H scope (compEnvC scope cl C X.env) fp) Γ' elt te)
    (hy : X.N[i]? = some y) (hyl : X.env.scope.names.lookup y = some .local) (hsw : swapsWith (.ListComp elt [⟨tg, iter, ifs, 0⟩] scope pos) (some (.Name y py)) spos.line X.env = pure true) (hs : ∀ x, foldedSetIterable iter X.env x = pure x) :
    DS X Γ (.Assign [.Name y py] (.ListComp elt [⟨tg, iter, ifs, 0⟩] scope pos) spos) (dAsg td (.nm i)) := by
  have mt : Mono tt := (ht Γ rfl ({} : Shared) (fun _ => none) 0 [] []).mono
  have me : Mono te := (he Γ rfl ({} : Shared) (fun _ => none) 0 [] []).mono
  refine ⟨mono_asg md, ps_imp (ps_setLc (wi := liftI X.K Γ w) (g := rawT X.K g) (tt := fun σ H Q => ∃ Γ' : GI, Γ'.T = Γ.T ∧ liftB X.K Γ' tt σ H Q) (te := fun σ H Q => ∃ Γ' : GI, Γ'.T = Γ.T ∧ liftV X.K Γ' te σ H Q) hc hN hy hyl hsw hi.pi ok (fun s H C cl fp => (hg s H C cl fp).pg)
    (fun s H C cl fp => ⟨fun pins s' σ H' Q I ⟨Γ', e, q⟩ => (ht Γ' e s H C cl fp).pts.run pins s' σ H' Q I q⟩) (fun s H C cl fp => ⟨fun pins s' σ H' Q I ⟨Γ', e, q⟩ => (he Γ' e s H C cl fp).pe.run pins s' σ H' Q I q⟩) hs) fun D σ H q => ?_⟩
  exact lc_ok hi.mono mt me hix _ _ _ (up _ _ _ (asg_lift (g := .nm i) md D σ H q))
theorem ds_lc (i : Nat) {y : Str} {py : Pos} {elt iter : Expr} {ifs : List Expr} {scope : Scope} {own : List (Str × Nat)} {spos : Pos} {w : DTI} {g : Tg} {tt : DTT} {te : DTE} (hc : X.calm = true) (hN : X.N.Nodup) (hi : DWk X Γ tg iter w) (ok : BlkOk X.N X.env.scope scope own)
    (hg : ∀ (s : Shared) (H : Hp) (C : Addr) (cl : List (Str × Addr)) (fp : List Addr), DG (X.blk s H scope (compEnvC scope cl C X.env) fp) tg g) (hix : (g.ix.all (fun i => (own.map (·.2)).contains i) && !g.isStar) = true)
    (ht : ∀ (Γ' : GI), Γ'.T = Γ.T → ∀ (s : Shared) (H : Hp) (C : Addr) (cl : List (Str × Addr)) (fp : List Addr), DTs (X.blk s H scope (compEnvC scope cl C X.env) fp) Γ' ifs tt)
    (he : ∀ (Γ' : GI), Γ'.T = Γ.T → ∀ (s : Shared) (H : Hp) (C : Addr) (cl : List (Str × Addr)) (fp : List Addr), DE (X.blk s H scope (compEnvC scope cl C X.env) fp) Γ' elt te)
    (hy : X.N[i]? = some y := by rfl) (hyl : X.env.scope.names.lookup y = some .local := by rfl) (hsw : swapsWith (.ListComp elt [⟨tg, iter, ifs, 0⟩] scope pos) (some (.Name y py)) spos.line X.env = pure true := by rfl) (hs : ∀ x, foldedSetIterable iter X.env x = pure x := by intro _; rfl) :
    DS X Γ (.Assign [.Name y py] (.ListComp elt [⟨tg, iter, ifs, 0⟩] scope pos) spos) (dAsg (dL (fLc w g tt te (own.map (·.2)))) (.nm i)) := by
  have m := (df_lc (pos := pos) hc hN hi ok hg hix ht he hs).mono
  exact ds_lc_ (mono_L m) (liftL_dL m) hc hN hi ok hg hix ht he hy hyl hsw hs
end
end DL

namespace DL
open PySem PySem.Spec PyProof.Rows L2
set_option autoImplicit true

abbrev DXK := DExc → MH → Prop
abbrev DXS := DExc → DSt → MH → Prop
abbrev DSp := List SV → MH → DK → DXK → Prop
def liftX (K : PySem.W.Frag) (Γ : GI) (E : DXS) : WX := fun cls d σ H => ∃ x σd h, RSt K Γ H h σd σ ∧ RM K Γ H h ∧ RX K Γ H h x cls d ∧ E x σd h
def noX : DXS := fun _ _ _ => False
theorem takes_no {X : Cx} : Takes X (liftX X.K Γ noX) := takes0.imp fun _ _ _ _ ⟨_, _, _, _, _, _, z⟩ => z
theorem RM.g0 {K : PySem.W.Frag} {H : Hp} {h : MH} (r : RM K Γ H h) : RM K (G0 Γ.x Γ.T) H h := ⟨r.ob, trivial, r.nx, r.tb⟩
theorem RM.back {K : PySem.W.Frag} {H H' : Hp} {h h' : MH} (r : RM K Γ H h) (p : PX Γ H h H' h') (q : RM K (G0 Γ.x Γ.T) H' h') : RM K Γ H' h' := ⟨q.ob, Γ.st p r.g, q.nx, q.tb⟩
def liftSp (K : PySem.W.Frag) (T : List (Addr × Str)) (W : DSp) : Sp := fun vs H Q E => ∃ (xs : List Addr) (ds : List SV) (h : MH), RVs K (G0 xs T) H h ds vs ∧ RM K (G0 xs T) H h ∧
  W ds h (fun r h' => ∀ v H', PXx xs H h H' h' → RV K (G0 xs T) H' h' r v → RM K (G0 xs T) H' h' → Q v H') (fun x h' => ∀ cls d H', PXx xs H h H' h' → RX K (G0 xs T) H' h' x cls d → RM K (G0 xs T) H' h' → E cls d H')
def MonoW (W : DSp) : Prop := ∀ ds h (Q Q' : DK) (E E' : DXK), (∀ x h', Q x h' → Q' x h') → (∀ x h', E x h' → E' x h') → W ds h Q E → W ds h Q' E'
theorem rvs_len {K : PySem.W.Frag} {H : Hp} {h : MH} : ∀ {xs : List SV} {vs : List V}, RVs K Γ H h xs vs → vs.length = xs.length
  | _, _, .nil => rfl
  | _, _, .cons _ t => by rw [List.length_cons, List.length_cons, rvs_len t]
/-- a def keeps its promise, where no repr runs around -/
structure FnG (P : Program) (w : World) (K : PySem.W.Frag) (mg : Str → Option Value) (base : Heap) (T : List (Addr × Str)) (k : Nat) (f : Addr) (fd : FuncData) (ps : List Str) (W : DSp) : Prop where
  len : ∀ ds h Q E, W ds h Q E → ds.length = ps.length
  mono : MonoW W
  run : ∀ (A : Around) (outer : List Env) (s : Shared) (H : Hp) (args : Args) (us : List Value) (vs : List V) (Q : VK) (E : XK), Room k A → A.guards = some [] → Env0 P w K mg base A outer s H → BindsTo s fd args (ps.zip us) → Vals vs us →
    liftSp K T W vs H Q E → codeAny (model P w) A (.call (.ref f) args) (CR (L2.CX P w) outer P w H s Q E) s
theorem FnG.up {P : Program} {w : World} {K : PySem.W.Frag} {mg : Str → Option Value} {base : Heap} {j k : Nat} {f : Addr} {fd : FuncData} {ps : List Str} {W : DSp} (F : FnG P w K mg base T j f fd ps W) (h : j ≤ k) : FnG P w K mg base T k f fd ps W :=
  ⟨F.len, F.mono, fun A outer s H args us vs Q E hr => F.run A outer s H args us vs Q E (hr.mono h)⟩
def dstart (N : List Str) (ds : List SV) : DSt := ds.map some ++ List.replicate (N.length - ds.length) none
theorem rst_start {K : PySem.W.Frag} {H : Hp} {h : MH} {N : List Str} {ds : List SV} {vs : List V} (r : RVs K Γ H h ds vs) : RSt K Γ H h (dstart N ds) (L2.start N vs) := by
  have el := rvs_len r
  refine ⟨by unfold dstart L2.start; simp [el], fun i x e => ?_⟩
  have get : ∀ {ds : List SV} {vs : List V}, RVs K Γ H h ds vs → ∀ (i : Nat), ds[i]? = some x → ∃ v, vs[i]? = some v ∧ RV K Γ H h x v := by
    intro ds vs r
    induction r with
    | nil => intro i e; simp at e
    | cons r1 _ ih =>
      intro i e
      cases i with
      | zero => simp at e; subst e; exact ⟨_, rfl, r1⟩
      | succ i => exact ih i (by simpa using e)
  unfold dstart at e
  by_cases hi : i < ds.length
  · rw [List.getElem?_append_left (by simpa using hi), List.getElem?_map] at e
    cases q : ds[i]? with
    | none => rw [q] at e; cases e
    | some y =>
      rw [q] at e
      cases e
      obtain ⟨v, e1, e2⟩ := get r i q
      refine ⟨v, ?_, e2⟩
      unfold L2.start
      rw [List.getElem?_append_left (by rw [List.length_map, el]; exact hi), List.getElem?_map, e1]
      rfl
  · rw [List.getElem?_append_right (by simpa using hi), List.getElem?_replicate] at e
    split at e <;> cases e
/-- behind a call: what was there ahead of it, and what it hands back -/
def SV.isOwn (r : SV) (b : Addr) : Bool := match r with
  | .own a => Nat.beq a b
  | .d _ => false
def restr (h0 h : MH) (r : SV) : MH := fun b => if (h0 b).isSome || r.isOwn b then h b else none
def restrX (h0 h : MH) : MH := fun b => if (h0 b).isSome then h b else none
theorem restr_sub {h0 h : MH} {r : SV} : ∀ a o, restr h0 h r a = some o → h a = some o := fun a o e => by
  unfold restr at e
  split at e
  · exact e
  · cases e
theorem restrX_sub {h0 h : MH} : ∀ a o, restrX h0 h a = some o → h a = some o := fun a o e => by
  unfold restrX at e
  split at e
  · exact e
  · cases e
/-- the wish at a def's end, told of its body -/
def dEnd (_ : MH) (Q : DK) : DEnds where
  nx := fun _ h' => ∃ h2, (∀ a o, h2 a = some o → h' a = some o) ∧ Q (.d .none) h2
  rt := fun r h' => ∃ h2, (∀ a o, h2 a = some o → h' a = some o) ∧ Q r h2
  bk := fun _ _ => False
  ct := fun _ _ => False
def fnW (N ps : List Str) (t : DXS → DTS) : DSp := fun ds h Q E => ds.length = ps.length ∧ ∃ (E0 : DXS) (D0 : DEnds), (∀ x σ h', E0 x σ h' → ∃ h2, (∀ a o, h2 a = some o → h' a = some o) ∧ E x h2) ∧ DEnds.Le D0 (dEnd h Q) ∧ t E0 D0 (dstart N ds) h
theorem fnW_mk {N ps : List Str} {t : DXS → DTS} {ds : List SV} {h : MH} {Q : DK} {E : DXK} (hl : ds.length = ps.length) (ht : t (fun x _ h' => E x (restrX h h')) (dEnd h Q) (dstart N ds) h) : fnW N ps t ds h Q E := ⟨hl, _, _, fun _ _ _ z => ⟨_, restrX_sub, z⟩, le_refl, ht⟩
theorem fnW_mono {N ps : List Str} {t : DXS → DTS} : MonoW (fnW N ps t) := fun ds h Q Q' E E' k kx ⟨hl, E0, D0, hE, hD, ht⟩ =>
  ⟨hl, E0, D0, fun x σ h' z => let ⟨h2, a, b⟩ := hE x σ h' z; ⟨h2, a, kx _ _ b⟩, ⟨fun σ h' z => let ⟨h2, a, b⟩ := hD.nx σ h' z; ⟨h2, a, k _ _ b⟩, fun x h' z => let ⟨h2, a, b⟩ := hD.rt x h' z; ⟨h2, a, k _ _ b⟩, fun σ h' z => hD.bk σ h' z, fun σ h' z => hD.ct σ h' z⟩, ht⟩
section
variable {P : Program} {w : World} {K : PySem.W.Frag} {mg : Str → Option Value} {base : Heap}
/-- THE RULE for a def -/
theorem fn_g {T : List (Addr × Str)} {x qual : Str} {st : Stmt} {f : Addr} {fd : FuncData} {N ps : List Str} {k : Nat} {t : DXS → DTS} (F : Fun K x qual st f fd) (S : FnScope N ps (defScope st))
    (body : ∀ (cdv : Value) (A : Around) (outer : List Env) (s : Shared) (H : Hp) (E' : XK) (Γ : GI) (Ed : DXS), fd.code = cdv → Γ.T = T → Room k (A.deeper (envOfC qual (defScope st) s.heap.objs.size f cdv)) → A.guards = some [] →
      Takes (cxOf (L2.CX P w) P w K mg base N qual (defScope st) f cdv A outer s H E') (liftX K Γ Ed) → DSs (cxOf (L2.CX P w) P w K mg base N qual (defScope st) f cdv A outer s H E') Γ (defBody st) (t Ed)) :
    FnG P w K mg base T (k + 1) f fd ps (fnW N ps t) := by
  obtain ⟨oc, od, kV, doc, pm, an, cdv, ct, osl, rfl, lk, hcd⟩ := F.ex
  refine ⟨fun ds h Q E w' => w'.1, fnW_mono, ?_⟩
  rintro A outer s H args us vs Q E room gd env0 bind rel ⟨xs, ds, h, rv, rm, hlen, E0, D0, hE, hD, hw⟩
  have vlen : vs.length = ps.length := by rw [rvs_len rv]; exact hlen
  have keepB : ∀ b o, base.get? b = some o → s.heap.get? b = some o := fun b o z => (env0.bs b o z).1
  have inK : K.In s.heap := env0.mod.kin.keeps keepB
  have noLim : s.heap.NoLimit := env0.mod.nolimit.keeps keepB
  have kinds : ∀ y ∈ ps.zip us, (defScope st).names.lookup y.1 = some .local ∨ ((defScope st).names.lookup y.1 = some .cell ∧ ((cellsFrom (s.heap.objs.size + 1) (defScope st).names []).lookup y.1).isSome = true) := by
    rintro ⟨n, u⟩ hy
    exact (S.par n (List.of_mem_zip hy).1).imp id fun q => ⟨q, PySem.W.cellsFrom_some _ _ _ (.inl q)⟩
  refine codeAny_call_function room.depth (inK _ _ lk) rfl S.co S.gen rfl (PySem.W.codeRec_of inK hcd) (bind _ _ _ _ ?_)
  refine wpAny_newFunctionEnv_cells S.kind kinds fun env henv s1 made => ?_
  subst henv
  refine ⟨noLim.keeps made.toInCall.keep, codeAny_func ?_⟩
  have I := inv_start (CX := L2.CX P w) (E := E) S room.hd env0 vlen rel made
  -- the deep reading
  let Γ : GI := ⟨xs, T, fun H' h' => PXx xs H h H' h', fun p q => q.trans p⟩
  have rmΓ : RM K Γ H h := ⟨rm.ob, PXx.refl, rm.nx, rm.tb⟩
  have rsΓ : RSt K Γ H h (dstart N ds) (L2.start N vs) := rst_start (Γ := Γ) rv
  have tk : Takes (cxOf (L2.CX P w) P w K mg base N qual (defScope st) f cdv A outer s H E) (liftX K Γ E0) := (takes_of (X := cxOf (L2.CX P w) P w K mg base N qual (defScope st) f cdv A outer s H E) rfl rfl rfl rfl).imp fun cls d σ H' z => by
    obtain ⟨x, σd, h', _, rm', rx, e⟩ := z
    obtain ⟨h2, hs2, e2⟩ := hE _ _ _ e
    have dpx : PXx xs H' h' H' h2 := drop_px (Γ := Γ) hs2
    exact e2 cls d H' (rm'.g.trans dpx) (rx_up (Γ := G0 xs T) dpx rx) (drop_rm (Γ := Γ) hs2 rm').g0
  have der := body cdv A outer s H E Γ E0 rfl rfl (room.deeper _) gd tk
  refine wpAny_mono (der.ps.run [] s1 (L2.start N vs) H { nx := fun _ H' => Q .non H', rt := Q } I ⟨dstart N ds, h, rsΓ, rmΓ, der.mono _ _ _ _ ?_ hw⟩) (fun fl s' hs => ?_) fun e s' hs => hs
  · have out : ∀ (r : SV) (h' : MH) (v : V) (H' : Hp), (∃ h2, (∀ a o, h2 a = some o → h' a = some o) ∧ ∀ v H', PXx xs H h H' h2 → RV K (G0 xs T) H' h2 r v → RM K (G0 xs T) H' h2 → Q v H') → PX Γ H h H' h' → RV K Γ H' h' r v → RM K Γ H' h' → Q v H' := fun r h' v H' ⟨h2, hs2, z⟩ p rr rm' => by
      have dpx : PXx xs H' h' H' h2 := drop_px (Γ := Γ) hs2
      exact z v H' (PXx.trans p dpx) (RV.up (Γ := G0 xs T) dpx rr) (drop_rm (Γ := Γ) hs2 rm').g0
    exact ⟨fun σd h' z σ H' p _ r => out (.d .none) h' .non H' (hD.nx σd h' z) p rv_non r, fun r h' z v H' p rr r' => out r h' v H' (hD.rt r h' z) p rr r', fun _ _ z => (hD.bk _ _ z).elim, fun _ _ z => (hD.ct _ _ z).elim⟩
  · have done : ∀ {σ' : L2.St} {H' : Hp} {v : V} {u : Value}, Inv (cxOf (L2.CX P w) P w K mg base N qual (defScope st) f cdv A outer s H E) [] σ' H' s' → RelV v u → Q v H' → CE outer P w H s Q u s' :=
      fun {σ' H' v u} J r q => ⟨v, H', J.os, J.bare, J.base, J.hok, r, q⟩
    match fl, hs with
    | .ret u, ⟨v, σ', H', J, r, q⟩ => exact done J r q
    | .next, ⟨σ', H', J, q⟩ => exact done (v := V.non) (u := Value.none) J rfl q
    | .brk, ⟨_, _, _, q⟩ => exact q.elim
    | .cont, ⟨_, _, _, q⟩ => exact q.elim
end

def dCall (E : DXS) (W : DSp) (t : DTA) : DTE := fun σ h Q => t σ h fun xs h1 => W xs h1 Q fun x h2 => E x σ h2
section
variable {X : Cx} {k : Nat} {f : Addr} {fd : FuncData} {ps : List Str} {W : DSp} {E : DXS} {x : Str} {p pos : Pos} {e : Expr} {es : List Expr} {t : DTA}
theorem run_g {pins : List (Addr × Obj)} {σ : L2.St} {H : Hp} {s : Shared} {Q : VK} {us : List Value} {vs : List V} {xs : List SV} {σd : DSt} {h : MH} {C : DK} (F : FnG X.prog X.w X.K X.mg X.base Γ.T k f fd ps W) (hr : Room k X.A) (hg : X.A.guards = some []) (hb : Binds X.K fd ps []) (tk : Takes X (liftX X.K Γ E))
    (I : Inv X pins σ H s) (r : Vals vs us) (rv : RVs X.K Γ H h xs vs) (rs : RSt X.K Γ H h σd σ) (rm : RM X.K Γ H h) (hw : W xs h C fun x h2 => E x σd h2) (k' : ∀ z h' v H', PX Γ H h H' h' → RV X.K Γ H' h' z v → RM X.K Γ H' h' → C z h' → Q v H') :
    wpAny (model X.prog X.w) X.A (call (.ref f) us) (EP X pins σ Q) X.xe s := by
  have el : (us ++ []).length = ps.length := by rw [List.append_nil, ← r.length, rvs_len rv]; exact F.len _ _ _ _ hw
  have bi := hb s us I.kIn el
  rw [List.append_nil] at bi
  have hsp : liftSp X.K Γ.T W vs H Q (fun cls d H' => liftX X.K Γ E cls d σ H') := ⟨Γ.x, xs, h, rv, rm.g0, F.mono _ _ _ _ _ _ (fun z h' c v H' px rz rm' => k' z h' v H' px rz (rm.back px rm') c)
    (fun x h' ee cls d H' px rx rm' => ⟨x, σd, h', rs.up px, rm.back px rm', rx, ee⟩) hw⟩
  refine wpAny_call (codeAny_mono (F.run X.A X.stack s H ⟨us, []⟩ us vs Q (fun cls d H' => liftX X.K Γ E cls d σ H') hr hg I.env0 bi r hsp) fun res s' hq => ?_)
  match res, hq with
  | .error ex, hq => exact tk ex s' (XE.of_call I (fun _ _ _ z => z) hq)
  | .ok (.ret u), hq => exact I.after hq
  | .ok .next, hq => exact False.elim hq
  | .ok .brk, hq => exact False.elim hq
  | .ok .cont, hq => exact False.elim hq
theorem mono_call {t : DTA} (m : Mono t) (mw : MonoW W) : Mono (dCall E W t) := fun σ h Q Q' k w => m _ _ _ _ (fun xs h1 w1 => mw _ _ _ _ _ _ k (fun _ _ z => z) w1) w
theorem de_call {T : List (Addr × Str)} (hΓ : Γ.T = T) (F : FnG X.prog X.w X.K X.mg X.base T k f fd ps W) (hr : Room k X.A) (hgd : X.A.guards = some []) (hg : Gl X x) (hm : X.mg x = some (.ref f)) (hk : PySem.W.keepIn X.K (.ref f) = true) (hb : Binds X.K fd ps []) (tk : Takes X (liftX X.K Γ E))
    (ha : DA X Γ (e :: es) t) (hdb : (x == ("__debug__" : Str)) = false := by decide) (he : starEach (e :: es) X.env = (false, eval e X.env) :: starEach es X.env := by rfl) (hpl : (backTo pos (starEach es X.env)).any (·.1) = false := by rfl) :
    DE X Γ (.Call (.Name x p) (e :: es) [] pos) (dCall E W t) := by
  subst hΓ
  refine ⟨mono_call ha.mono F.mono, ⟨fun pins s σ H Q I w => ?_⟩⟩
  obtain ⟨σd, h, rs, rm, w⟩ := w
  refine wpAny_Call_Name_kw (ld_glob I hg hm ?_ hdb)
  refine PySem.W.callWith_K (h₀ := X.base) I.ok.mod.kin hk (thn (ha.pa.run pos pins s σ H (fun vs H1 => ∃ xs h1, PX Γ H h H1 h1 ∧ RVs X.K Γ H1 h1 xs vs ∧ RSt X.K Γ H1 h1 σd σ ∧ RM X.K Γ H1 h1 ∧ W xs h1 (fun z h' => ∀ v H', PX Γ H h H' h' → RV X.K Γ H' h' z v → RM X.K Γ H' h' → Q v H') fun x h2 => E x σd h2) I
    (lift_mk ha.mono rs rm w fun xs h1 vs H1 px rs1 rvs rm1 w1 => ⟨xs, h1, px, rvs, rs1, rm1, w1⟩)) ?_) he hpl
  rintro us s1 ⟨vs, H1, I1, r, xs, h1, px, rvs, rs1, rm1, w1⟩
  exact ⟨I1.kIn, run_g F hr hgd hb tk I1 r rvs rs1 rm1 w1 fun z h' v H' px' rz rm' c => c v H' (px.trans px') rz rm'⟩
theorem de_call0 {T : List (Addr × Str)} (hΓ : Γ.T = T) (F : FnG X.prog X.w X.K X.mg X.base T k f fd ps W) (hr : Room k X.A) (hgd : X.A.guards = some []) (hg : Gl X x) (hm : X.mg x = some (.ref f)) (hk : PySem.W.keepIn X.K (.ref f) = true) (hb : Binds X.K fd ps []) (tk : Takes X (liftX X.K Γ E))
    (hdb : (x == ("__debug__" : Str)) = false := by decide) : DE X Γ (.Call (.Name x p) [] [] pos) (dCall E W dNil) := by
  subst hΓ
  refine ⟨mono_call (fun _ _ _ _ k w => k _ _ w) F.mono, ⟨fun pins s σ H Q I w => ?_⟩⟩
  obtain ⟨σd, h, rs, rm, w⟩ := w
  refine wpAny_Call_Name_kw (ld_glob I hg hm ?_ hdb)
  exact PySem.W.callWith_K0 I.kIn hk (run_g (us := []) (xs := []) F hr hgd hb tk I .nil .nil rs rm w fun z h' v H' px' rz rm' c => c v H' px' rz rm')
end
end DL

namespace DL
open PySem PySem.Spec PyProof.Rows L2
set_option autoImplicit true

/-- repr of none, ints, truths, texts, lists, tuples of them, whose text is short enough -/
def reprOk (d : PyData) : Prop := d.showable = true ∧ d.hasDict = false ∧ d.depth ≤ 32 ∧ d.shown.length ≤ sizeLine
def rdRepr : DRA := fun xs h Q => match xs with
  | [.d d] => reprOk d ∧ Q (.d (.str d.shown)) h
  | _ => False
def rReprV (K : PySem.W.Frag) : List V → Hp → VK → Prop := fun vs H Q => ∃ v d, vs = [v] ∧ Dp K H v d ∧ reprOk d ∧ Q (.str d.shown) H
theorem cr_repr {X : Cx} (hg : X.A.guards = some []) (hu : X.A.units + 64 < cLine) : CallR X (.builtin "repr") (rReprV X.K) := by
  intro pins s σ H vs us Q I r h
  obtain ⟨v, d, rfl, dp, ⟨h1, h2, h3, h4⟩, q⟩ := h
  obtain ⟨u, rfl, ru⟩ := vals1 r
  have one : ∀ x : Str, d.shown = x → EP X pins σ Q (.str x s.toks) { s with toks := s.toks + 1 } := fun x e => ⟨.str x, H, I.tok _, ⟨_, rfl⟩, by rw [← e]; exact q⟩
  have many : ∀ a as, u = .ref a → Reads s.heap (.ref a) d as → wpAny (model X.prog X.w) X.A (call (.builtin "repr") [.ref a]) (EP X pins σ Q) X.xe s := fun a as e rd =>
    repr_of_reads' rd h1 (PyData.noDict_hsm h2) hg (by omega) (fun _ _ e => e) (fun h' u' tk hk => ⟨.str d.shown, H, I.kept hk, ⟨_, rfl⟩, q⟩) h4
  obtain ⟨as, rd⟩ := Dp.reads I d v u dp ru
  cases dp with
  | non =>
    obtain rfl : u = Value.none := ru
    exact P.repr_of_none (one _ (by simp only [PyData.shown]))
  | bl b =>
    obtain rfl : u = Value.bool b := ru
    exact P.repr_of_bool (one _ (by simp only [PyData.shown]))
  | int i =>
    obtain ⟨t, rfl⟩ := ru
    exact P.repr_of_int (by simpa [PyData.showable] using h1) (one _ (by simp only [PyData.shown]))
  | str x =>
    obtain ⟨t, rfl⟩ := ru
    simp only [PyData.shown] at h4
    exact P.repr_of_str (one _ (by simp only [PyData.shown])) h4
  | lst _ _ => obtain rfl : u = Value.ref _ := ru; exact many _ _ rfl rd
  | tup _ _ => obtain rfl : u = Value.ref _ := ru; exact many _ _ rfl rd
theorem la_repr {K : PySem.W.Frag} : LRA K Γ rdRepr (rReprV K) := by
  refine ⟨fun xs h Q Q' k w => ?_, fun xs vs H h C Q r rm w k => ?_⟩
  · unfold rdRepr at w ⊢
    split at w
    · exact ⟨w.1, k _ _ w.2⟩
    · exact w
  · unfold rdRepr at w
    split at w
    · obtain ⟨v, rfl, rv⟩ := rvs1 r
      exact ⟨v, _, rfl, dp_up fz_sub _ _ rv, w.1, k _ _ _ H PX.refl rv_str rm w.2⟩
    · exact w.elim

def lexL : List Int → List Int → Bool
  | x :: xs, y :: ys => if x = y then lexL xs ys else decide (x < y)
  | [], _ :: _ => true
  | _, [] => false
def leL (a b : List Int) : Bool := !lexL b a
theorem ints_uniq : ∀ {is js r r' : List Value} {ns ms : List Int}, IntsAre is ns → IntsAre js ms → ns.length = ms.length → is ++ r = js ++ r' → ns = ms ∧ r = r'
  | _, _, _, _, _, _, .nil, .nil, _, e => ⟨rfl, e⟩
  | _, _, _, _, _, _, .nil, .cons _ _ _, h, _ => by simp at h
  | _, _, _, _, _, _, .cons _ _ _, .nil, h, _ => by simp at h
  | _, _, _, _, _, _, .cons n t a, .cons m u b, h, e => by
    simp only [List.cons_append, List.cons.injEq, Value.int.injEq] at e
    obtain ⟨e1, e2⟩ := ints_uniq a b (by simpa using h) e.2
    exact ⟨by rw [e.1.1, e1], e2⟩
theorem HdAt.uniq {h : Heap} {v : Value} {ns ms : List Int} {r r' : List Value} (a : HdAt h v ns r) (b : HdAt h v ms r') (hl : ns.length = ms.length) : ns = ms ∧ r = r' := by
  obtain ⟨p, o, n, is, rfl, h1, _, h3, h4⟩ := a
  obtain ⟨p', o', n', js, e, g1, _, g3, g4⟩ := b
  cases e
  rw [h1] at g1
  cases g1
  rw [h3] at g3
  injection g3 with g3 _
  exact ints_uniq h4 g4 hl (by simpa using g3)
open Classical in
section
variable {prog : Program} {w : World} {A : Around} {E : Value → Shared → Prop} {s : Shared}
end
end DL

namespace DL
open PySem PySem.Spec PyProof.Rows L2
set_option autoImplicit true

section
variable {prog : Program} {w : World} {A : Around} {s : Shared}
end

def rowOf : PyData → Int
  | .tuple (_ :: .int r :: _) => r
  | _ => 0
def placeOf : PyData → Int
  | .tuple (.int p :: _) => p
  | _ => 0
def byOk (ds : List PyData) : Prop := ∀ d ∈ ds, ∃ p r rest, d = .tuple (.int p :: .int r :: rest)
def leBy (a b : PyData) : Bool := leL [rowOf a, placeOf a] [rowOf b, placeOf b]
def fBy (t : DTA) : DTF := fun σ h Q => t σ h fun xs h1 => match xs with
  | [x] => match asQ h1 x with
    | some ds => byOk ds ∧ Q (ds.mergeSort leBy) h1
    | none => False
  | _ => False
section
variable {prog : Program} {w : World} {A : Around} {EX : Value → Shared → Prop} {s : Shared} {β : Type} {vs : List Value} {bs : List β} {R : Value → β → Prop}
open PySem.W in
end
end DL

namespace DL
open PySem PySem.Spec PyProof.Rows L2
set_option autoImplicit true

def FnC (P : Program) (w : World) (K : PySem.W.Frag) (mg : Str → Option Value) (base : Heap) (T : List (Addr × Str)) (k : Nat) (x : Str) (ps : List Str) (W : DSp) : Prop :=
  ∃ f fd, FnG P w K mg base T k f fd ps W ∧ PySem.W.keepIn K (.ref f) = true ∧ Binds K fd ps [] ∧ mg x = some (.ref f)
theorem FnC.up {P : Program} {w : World} {K : PySem.W.Frag} {mg : Str → Option Value} {base : Heap} {T : List (Addr × Str)} {j k : Nat} {x : Str} {ps : List Str} {W : DSp} (F : FnC P w K mg base T j x ps W) (h : j ≤ k) : FnC P w K mg base T k x ps W := by
  obtain ⟨f, fd, a, b⟩ := F
  exact ⟨f, fd, a.up h, b⟩
section
variable {X : Cx} {k : Nat} {ps : List Str} {W : DSp} {E : DXS} {x : Str} {p pos : Pos} {e : Expr} {es : List Expr} {t : DTA} {T : List (Addr × Str)}
theorem de_fn (hΓ : Γ.T = T) (F : FnC X.prog X.w X.K X.mg X.base T k x ps W) (hr : Room k X.A) (hgd : X.A.guards = some []) (tk : Takes X (liftX X.K Γ E)) (ha : DA X Γ (e :: es) t) (hg : Gl X x := by rfl) (hdb : (x == ("__debug__" : Str)) = false := by decide)
    (he : starEach (e :: es) X.env = (false, eval e X.env) :: starEach es X.env := by rfl) (hpl : (backTo pos (starEach es X.env)).any (·.1) = false := by rfl) : DE X Γ (.Call (.Name x p) (e :: es) [] pos) (dCall E W t) := by
  obtain ⟨f, fd, a, b, c, d⟩ := F
  exact de_call hΓ a hr hgd hg d b c tk ha hdb he hpl
theorem de_fn0 (hΓ : Γ.T = T) (F : FnC X.prog X.w X.K X.mg X.base T k x ps W) (hr : Room k X.A) (hgd : X.A.guards = some []) (tk : Takes X (liftX X.K Γ E)) (hg : Gl X x := by rfl) (hdb : (x == ("__debug__" : Str)) = false := by decide) : DE X Γ (.Call (.Name x p) [] [] pos) (dCall E W dNil) := by
  obtain ⟨f, fd, a, b, c, d⟩ := F
  exact de_call0 hΓ a hr hgd hg d b c tk hdb
end
theorem fn_c {P : Program} {w : World} {K : PySem.W.Frag} {mg : Str → Option Value} {base : Heap} {T : List (Addr × Str)} {k : Nat} {x : Str} {ps : List Str} {W : DSp} {st : Stmt} {f : Addr} {fd : FuncData} (F : Fun K x x st f fd) (G : FnG P w K mg base T k f fd ps W) (hm : mg x = some (.ref f))
    (hb : ∀ (kV doc pm : Value) (an : Option Addr) (cdv ct : Value) (us : List Value), us.length = ps.length → bindArgs (PySem.W.fnOf x x (defArgs st) (defBody st) (defScope st) .none kV doc pm an cdv ct) ⟨us, []⟩ = pure (ps.zip us)) : FnC P w K mg base T k x ps W :=
  ⟨f, fd, G, F.kp, F.binds hb, hm⟩
theorem room1 {k : Nat} {A : Around} (r : Room k A) : A.units + 1 < cLine := hu_of r
theorem room64 {k : Nat} {A : Around} (r : Room k A) : A.units + 64 < cLine := by
  have := r.un
  omega
theorem room65 {k : Nat} {A : Around} (r : Room k A) : A.units + 65 < cLine := by
  have := r.un
  omega
end DL

namespace DL
open PySem PySem.Spec PyProof.Rows L2
set_option autoImplicit true

theorem hpTop_tab {K : PySem.W.Frag} {ts : List Addr} {a x : Addr} {o : Obj} {u : HO} (m : x ∈ ts) : hpTop K ts a o u x = some (.tbl #[]) := if_pos m
section
variable {P : Program} {w : World} {K : PySem.W.Frag} {mg mb : Str → Option Value} {cs : List (Addr × Addr)} {t : Shared} {a : Addr} {vs : List Value} {ns : List Int}
theorem TopOk.noTab (G : TopOk K mg mb cs t a vs ns) : a ∉ cs.map (·.2) := fun m => by
  have z := (G.isTab m).1
  rw [G.scr] at z
  have z' := congrArg Obj.data (Option.some.inj z)
  cases z'
theorem TopOk.keepNs (G : TopOk K mg mb cs t a vs ns) {x : Addr} {m : Str → Option Value} (h : t.heap.Ns x m) : (hidT t.heap (topHp K cs a vs ns)).Ns x m := by
  obtain ⟨o, es, n, e, d, r⟩ := h
  refine ⟨o, es, n, hidT_get e (G.free e (fun us k z => ?_) fun z => ?_), d, r⟩
  · rw [d] at z; cases z
  · rw [d] at z; cases z
theorem TopOk.kinT (G : TopOk K mg mb cs t a vs ns) : K.In (hidT t.heap (topHp K cs a vs ns)) := fun x o e => hidT_get (G.kin x o e) (by
  cases q : topHp K cs a vs ns x with
  | none => rfl
  | some u =>
    rcases hpTop_cases q with ⟨m, _⟩ | ⟨_, ea, en, _⟩
    · rw [(G.isTab m).2] at e; cases e
    · rw [ea, en] at e; cases e)
theorem TopOk.hok (G : TopOk K mg mb cs t a vs ns) : HOk P w (topHp K cs a vs ns) t.heap := fun x u q => by
  rcases hpTop_cases q with ⟨m, e⟩ | ⟨_, ea, _, e⟩
  · subst e
    exact (G.isTab m).1
  · subst e ea
    exact ⟨G.scr, by rw [List.length_map]; exact G.len, vs, _, L2.vals_ints G.int, G.scr⟩
theorem TopOk.sq (G : TopOk K mg mb cs t a vs ns) : SqL K (topHp K cs a vs ns) a (ns.map V.int) := by
  cases q : K.lookup a with
  | none => exact .inl (.inr ⟨_, (if_neg G.noTab).trans (if_pos ⟨rfl, by rw [q]; rfl⟩)⟩)
  | some o =>
    have e := G.kin a o q
    rw [G.scr] at e
    cases e
    exact .inr ⟨_, vs.toArray, _, q, rfl, rfl, rfl, by rw [List.size_toArray, G.int.length]; exact G.len, by simpa using L2.vals_ints G.int⟩
theorem TopOk.tabB (G : TopOk K mg mb cs t a vs ns) : ∀ c ∈ cs, LamX.TabB (hidT t.heap (topHp K cs a vs ns)) mg c.1 c.2 := fun c hc => by
  have tc := G.tab c hc
  constructor
  · obtain ⟨o, us, file, tf, flags, tg, inF, text, tt, e1, r1, r2, r3, rr⟩ := G.cod c hc
    refine ⟨o, us, file, tf, flags, tg, inF, text, tt, hidT_get e1 (G.free e1 (fun vs n z => ?_) fun z => ?_), r1, r2, r3, rr⟩
    · rw [r2] at z; cases z
    · rw [r2] at z
      cases z
      simp at r3
  · obtain ⟨m, o, b1, b2, b3, b4, b5, b6⟩ := G.mod
    refine ⟨m, o, b1, b2, fun q => ?_, fun q => ?_, hidT_get b3 (G.free b3 (fun us k z => ?_) fun z => ?_), b4, b5, b6⟩
    · obtain ⟨o', es, n, e, hd, _⟩ := G.glo
      rw [q, e] at b3
      cases b3
      rw [hd] at b6
      cases b6
    · rw [q, tc] at b3
      cases b3
      cases b6
    · rw [b6] at z; cases z
    · rw [b6] at z; cases z
  · intro z
    obtain ⟨o', es, n, e, hd, _⟩ := G.glo
    rw [z, tc] at e
    cases e
    cases hd
theorem TopOk.env0 (G : TopOk K mg mb cs t a vs ns) : Env0 P w K mg (hidT t.heap (topHp K cs a vs ns)) callerA [] t (topHp K cs a vs ns) := by
  have hM : L2.Mod K mg (hidT t.heap (topHp K cs a vs ns)) := ⟨G.kinT, G.keepNs G.glo, ⟨mb, G.keepNs G.blt, G.bltX⟩, let ⟨mc, h1, h2⟩ := G.lim; ⟨mc, G.keepNs h1, h2⟩⟩
  exact ⟨rfl, hM, fun b o e => of_hidT e, Nat.le_of_eq (hidT_size _ _), trivial, fun b hb => (List.not_mem_nil hb).elim, G.hok, .of_eq G.gen⟩
/-- a def that keeps its promise lets the law through -/
theorem top_call {k : Nat} {fa : Addr} {fd : FuncData} {x : Str} {W : DSp} {T : List (Addr × Str)} (G : TopOk K mg mb cs t a vs ns) (hr : Room k callerA) (hT : ∀ p ∈ T, p.1 ∈ cs.map (·.2))
    (F : FnG P w K mg (hidT t.heap (topHp K cs a vs ns)) T k fa fd [x] W) (hb : BindsTo t fd ⟨[.ref a], []⟩ [(x, .ref a)]) (hw : W [.d (.list (ns.map PyData.int))] (fun _ => none) (fun r _ => r = .d (.bool true)) fun _ _ => False) :
    codeAny (model P w) callerA (.call (.ref fa) ⟨[.ref a], []⟩) (fun r s' => r = .ok (.ret (.bool true)) ∧ OldK t.heap s'.heap ∧ s'.os = t.os ∧ AllBare s'.gens) t := by
  have sq0 : SqL K (Fzx [] (topHp K cs a vs ns) fun _ => none) a (ns.map V.int) := by
    rcases G.sq with (z | ⟨o, z⟩) | z
    · exact .inl (.inl (Fz.of z rfl (by simp)))
    · exact .inl (.inr ⟨o, Fz.of z rfl (by simp)⟩)
    · exact .inr z
  have rm0 : RM K (G0 [] T) (topHp K cs a vs ns) (fun _ => none) := ⟨(fun _ _ z => by cases z), trivial, fun _ m => (List.not_mem_nil m).elim, fun p hp => LamX.TabS.nil (hpTop_tab (hT p hp))⟩
  have sp : liftSp K T W [.ref a] (topHp K cs a vs ns) (fun v _ => v = .bl true) (fun _ _ _ => False) := by
    refine ⟨[], [.d (.list (ns.map PyData.int))], fun _ => none, .cons (show Dp K _ _ _ from .lst sq0 (dps_ints ns)) .nil, rm0, F.mono _ _ _ _ _ _ (fun r h' e v H' _ rv _ => ?_) (fun _ _ z => z.elim) hw⟩
    subst e
    have rv' : Dp K _ v (.bool true) := rv
    cases rv'
    rfl
  refine codeAny_mono (F.run callerA [] t _ ⟨[.ref a], []⟩ [.ref a] [.ref a] _ _ hr rfl G.env0 hb (.cons rfl .nil) sp) fun r s' h => ?_
  have nox : ∀ e, ¬ L2.CX P w [] (topHp K cs a vs ns) t (fun _ _ _ => False) e s' := fun e z => by
    obtain ⟨_, _, _, _, _, _, _, _, _, _, _, _, z⟩ := z
    exact z
  cases r with
  | error e => exact (nox e h).elim
  | ok fl => cases fl with
    | next => exact False.elim h
    | brk => exact False.elim h
    | cont => exact False.elim h
    | ret u =>
      obtain ⟨v, H', os, bare, un, hok', rv, q⟩ := h
      have q' : v = .bl true := q
      subst q'
      obtain rfl : u = Value.bool true := rv
      have stay : ∀ x o, x ∉ cs.map (·.2) → t.heap.get? x = some o → s'.heap.get? x = some o := fun x o nx e => by
        cases q : topHp K cs a vs ns x with
        | none => exact un.keep x o e q (List.not_mem_nil) (by simp)
        | some u =>
          rcases hpTop_cases q with ⟨m, _⟩ | ⟨_, ea, _, eu⟩
          · exact absurd m nx
          · subst eu
            obtain ⟨e2, _⟩ := hok' x _ (un.frzs x _ _ q)
            rw [ea, G.scr] at e
            cases e
            exact e2
      have more : ∀ c ∈ cs, ∃ zs : Array Value, s'.heap.get? c.2 = some { cls := .none, data := .fields zs } := fun c hc => by
        obtain ⟨zs, z⟩ := un.tbls c.2 #[] (hpTop_tab (List.mem_map_of_mem hc))
        exact ⟨_, hok' c.2 _ z⟩
      refine ⟨rfl, ⟨fun x o e => ?_, fun x o e => ?_⟩, os, bare⟩
      · by_cases m : x ∈ cs.map (·.2)
        · obtain ⟨c, hc, rfl⟩ := List.mem_map.mp m
          obtain ⟨zs, z⟩ := more c hc
          rw [G.tab c hc] at e
          cases e
          exact .inr (.inl ⟨((G.cod c hc).tab (G.tab c hc)).isCodeTable, rfl, #[], zs, rfl, by rw [Array.empty_append]; exact z⟩)
        · exact .inl (stay x o m e)
      · by_cases m : x ∈ cs.map (·.2)
        · obtain ⟨c, hc, rfl⟩ := List.mem_map.mp m
          obtain ⟨zs, z⟩ := more c hc
          exact ⟨_, z⟩
        · exact ⟨o, stay x o m e⟩
end
end DL

namespace DL
open PySem PySem.Spec PyProof.Rows L2
set_option autoImplicit true
theorem fun_of {K : PySem.W.Frag} {x : Str} {st : Stmt} {f : Addr} {fd : FuncData} (F : FunD K x x (defArgs st) (defBody st) (defScope st) [] [] f fd) : Fun K x x st f fd := by
  obtain ⟨oc, od, dV, kV, doc, pm, an, cdv, ct, osl, rfl, lk, hcd, hD, hK⟩ := F.ex
  rcases hD with ⟨_, rfl⟩ | ⟨e, _⟩
  · exact ⟨⟨oc, od, kV, doc, pm, an, cdv, ct, osl, rfl, lk, hcd⟩, F.kp⟩
  · exact absurd rfl e
abbrev tabsT (K : PySem.W.Frag) (tf : List He.Defn) (nm : He.Defn → Str) : List (Addr × Str) := tf.map fun p => ((He.cT K p).2, nm p)
/-- THE LAW'S WALK: F tells, at the head's facts, the law's promise -/
theorem walk_g {l : PySem.W.OpenLaw} {n m k : Nat} {q : Program} {loose : List Str} {XP : (Str → Option Value) → Heap → Prop} {d : DefRec} {x : Str} {fas : List He.Fa} {fns : List He.DefD} {ts : List He.Tab} {tf : List He.Defn} {nm : He.Defn → Str} {ex : PySem.W.Frag → Bool} {W : DSp}
    (hn : l.most = some n) (hn2 : n ≤ sizeLine) (hdf : d.params.defaults = []) (hr : Room k callerA)
    (F : ∀ (w : World) (mg : Str → Option Value) (fa : Addr) (h : Heap) (K : PySem.W.Frag), K.In h → h.Ns mainGlobals mg → mg d.name = some (.ref fa) → He.SaysX fas fns ts tf ex w h K →
      ∃ fd : FuncData, (∀ (s : Shared) (u : Value), BindsTo s fd ⟨[u], []⟩ [(x, u)]) ∧ ∀ base : Heap, K.In base → base.Ns mainGlobals mg → (∀ c ∈ tf.map (He.cT K), LamX.TabB base mg c.1 c.2) → FnG l.prog w K mg base (tabsT K tf nm) k fa fd [x] W)
    (hw : ∀ ns : List Int, ns.length ≤ n → (∀ z ∈ ns, Builtin.Int.intBits z ≤ 1048576) → W [.d (.list (ns.map PyData.int))] (fun _ => none) (fun r _ => r = .d (.bool true)) fun _ _ => False) :
    PySem.W.WalkO q loose XP (He.hookX m fas fns ts tf ex).says l.row.toRowW d [] (fun f vs => PySem.call f vs) := by
  refine Att.attach_callB hn hdf fun w s₀ t mg mb fa o pm cd doc a vs ns G Y ho hd hcd hmg hobj hints hlen hbits hg => ?_
  obtain ⟨K, KX, S⟩ := Y
  obtain ⟨fd, hb, hF⟩ := F w mg fa _ K KX G.T.g hmg S
  have tok : TopOk K mg mb (tf.map (He.cT K)) t a vs ns := ⟨KX, G.T.g, G.T.b, G.T.builtins, G.T.nolimit, hg, fun c hc => by
    obtain ⟨p, hp, rfl⟩ := List.mem_map.mp hc
    exact S.empty p hp, fun c hc => by
    obtain ⟨p, hp, rfl⟩ := List.mem_map.mp hc
    exact S.out p hp, fun c hc => by
    obtain ⟨p, hp, rfl⟩ := List.mem_map.mp hc
    exact PySem.W.codeHd_of_K KX (S.hd p hp), G.T.bmain, hobj, hints, Nat.le_trans hlen hn2⟩
  refine top_call tok hr (fun p hp => ?_) (hF _ tok.kinT (tok.keepNs G.T.g) tok.tabB) (hb _ _) (hw ns hlen hbits)
  obtain ⟨c, hc, rfl⟩ := List.mem_map.mp hp
  exact List.mem_map.mpr ⟨He.cT K c, List.mem_map_of_mem hc, rfl⟩
end DL

namespace DL
open PySem PySem.Spec PyProof.Rows L2
set_option autoImplicit true

def dOk : Nat → PyData → Bool
  | _, .none => true
  | _, .bool _ => true
  | _, .int _ => true
  | _, .str x => PySem.PyData.strOk x
  | n + 1, .list xs => xs.all (dOk n)
  | n + 1, .tuple xs => xs.all (dOk n)
  | 0, .list _ => false
  | 0, .tuple _ => false
  | _, .dict _ => false
theorem canLayAll_of {xs : List PyData} (h : ∀ x ∈ xs, x.canLay0 = true) : PyData.canLayAll0 xs = true := by
  induction xs with
  | nil => rfl
  | cons x xs ih =>
    unfold PyData.canLayAll0
    rw [h x List.mem_cons_self, ih fun y hy => h y (List.mem_cons_of_mem _ hy)]
    rfl
theorem depthAll_of {n : Nat} {xs : List PyData} (h : ∀ x ∈ xs, x.depth ≤ n) : PyData.depthAll xs ≤ n := by
  induction xs with
  | nil => exact Nat.zero_le _
  | cons x xs ih =>
    unfold PyData.depthAll
    exact Nat.max_le.mpr ⟨h x List.mem_cons_self, ih fun y hy => h y (List.mem_cons_of_mem _ hy)⟩
theorem dOk_ok : ∀ (n : Nat) (d : PyData), dOk n d = true → d.canLay0 = true ∧ d.depth ≤ n
  | _, .none, _ => ⟨rfl, Nat.zero_le _⟩
  | _, .bool _, _ => ⟨rfl, Nat.zero_le _⟩
  | _, .int _, _ => ⟨rfl, Nat.zero_le _⟩
  | n, .str x, h => ⟨by cases n <;> simpa [dOk, PyData.canLay0] using h, Nat.zero_le _⟩
  | n + 1, .list xs, h => by
    have z : ∀ x ∈ xs, dOk n x = true := List.all_eq_true.mp (by simpa [dOk] using h)
    exact ⟨by rw [PyData.canLay0]; exact canLayAll_of fun x hx => (dOk_ok n x (z x hx)).1, by rw [PyData.depth]; exact Nat.succ_le_succ (depthAll_of fun x hx => (dOk_ok n x (z x hx)).2)⟩
  | n + 1, .tuple xs, h => by
    have z : ∀ x ∈ xs, dOk n x = true := List.all_eq_true.mp (by simpa [dOk] using h)
    exact ⟨by rw [PyData.canLay0]; exact canLayAll_of fun x hx => (dOk_ok n x (z x hx)).1, by rw [PyData.depth]; exact Nat.succ_le_succ (depthAll_of fun x hx => (dOk_ok n x (z x hx)).2)⟩
  | 0, .list _, h => by simp [dOk] at h
  | 0, .tuple _, h => by simp [dOk] at h
  | n, .dict _, h => by cases n <;> simp [dOk] at h
theorem shaped_ok {n : Nat} {d : PyData} (hn : n ≤ 64) (h : dOk n d = true) : SeqAt.shaped d = true := by
  obtain ⟨h1, h2⟩ := dOk_ok n d h
  unfold SeqAt.shaped
  rw [h1, decide_eq_true (by omega)]
  rfl
theorem shaped_int (i : Int) : SeqAt.shaped (.int i) = true := rfl
theorem shaped_none : SeqAt.shaped .none = true := rfl
theorem shaped_bool (b : Bool) : SeqAt.shaped (.bool b) = true := rfl
/-- data whose text is at most 26 signs a thing, and how many things there are -/
def sOk : Nat → PyData → Bool
  | _, .none => true
  | _, .bool _ => true
  | _, .int i => decide (i.natAbs < 10 ^ 20)
  | _, .str x => PySem.PyData.strOk x && decide ((reprText x).length ≤ 24)
  | n + 1, .list xs => xs.all (sOk n)
  | n + 1, .tuple xs => xs.all (sOk n)
  | 0, .list _ => false
  | 0, .tuple _ => false
  | _, .dict _ => false
def nodes : Nat → PyData → Nat
  | n + 1, .list xs => 1 + (xs.map (nodes n)).sum
  | n + 1, .tuple xs => 1 + (xs.map (nodes n)).sum
  | _, _ => 1
theorem sOk_dOk : ∀ (n : Nat) (d : PyData), sOk n d = true → dOk n d = true
  | n, .none, _ => by cases n <;> rfl
  | n, .bool _, _ => by cases n <;> rfl
  | n, .int _, _ => by cases n <;> rfl
  | n, .str x, h => by cases n <;> simp [sOk] at h <;> simpa [dOk] using h.1
  | n + 1, .list xs, h => by
    have z : ∀ x ∈ xs, sOk n x = true := List.all_eq_true.mp (by simpa [sOk] using h)
    simp only [dOk]
    exact List.all_eq_true.mpr fun x hx => sOk_dOk n x (z x hx)
  | n + 1, .tuple xs, h => by
    have z : ∀ x ∈ xs, sOk n x = true := List.all_eq_true.mp (by simpa [sOk] using h)
    simp only [dOk]
    exact List.all_eq_true.mpr fun x hx => sOk_dOk n x (z x hx)
  | 0, .list _, h => by simp [sOk] at h
  | 0, .tuple _, h => by simp [sOk] at h
  | n, .dict _, h => by cases n <;> simp [sOk] at h
theorem shownAll_eq : ∀ xs : List PyData, PyData.shownAll xs = xs.map PyData.shown
  | [] => rfl
  | x :: xs => by
    rw [PyData.shownAll, shownAll_eq xs]
    rfl
theorem sum_le {f g : PyData → Nat} : ∀ {xs : List PyData}, (∀ x ∈ xs, f x + 2 ≤ 26 * g x) → (xs.map f).sum + 2 * xs.length ≤ 26 * (xs.map g).sum
  | [], _ => by simp
  | x :: xs, h => by
    have a := h x List.mem_cons_self
    have b := sum_le (xs := xs) fun y hy => h y (List.mem_cons_of_mem _ hy)
    simp only [List.map_cons, List.sum_cons, List.length_cons]
    omega
theorem show_le : ∀ (n : Nat) (d : PyData), sOk n d = true → d.shown.length + 2 ≤ 26 * nodes n d ∧ d.showable = true
  | n, .none, _ => ⟨by cases n <;> (simp only [nodes]; decide), by simp only [PyData.showable]⟩
  | n, .bool b, _ => ⟨by cases n <;> cases b <;> (simp only [nodes]; decide), by simp only [PyData.showable]⟩
  | n, .int i, h => by
    have z : i.natAbs < 10 ^ 20 := by cases n <;> simpa [sOk] using h
    have e : (Str.ofString (toString i)).length ≤ 21 := by
      rw [PySem.ofString_length]
      exact int_text_length_le10 (k := 20) (by decide) z
    refine ⟨?_, ?_⟩
    · have e2 : (PyData.int i).shown = Str.ofString (toString i) := by simp only [PyData.shown] <;> rfl
      rw [e2]
      cases n <;> (simp only [nodes]; omega)
    · simp only [PyData.showable]
      refine decide_eq_true ?_
      by_cases q : i.natAbs = 0
      · rw [q]; decide
      · exact Nat.lt_trans ((Nat.log2_lt (k := 67) q).mpr (Nat.lt_trans z (by decide))) (by decide)
  | n, .str x, h => by
    have z : (reprText x).length ≤ 24 := by cases n <;> (simp [sOk] at h; exact h.2)
    refine ⟨?_, by simp only [PyData.showable]⟩
    have e2 : (PyData.str x).shown = reprText x := by simp only [PyData.shown]
    rw [e2]
    cases n <;> (simp only [nodes]; omega)
  | n + 1, .list xs, h => by
    have z : ∀ x ∈ xs, sOk n x = true := List.all_eq_true.mp (by simpa [sOk] using h)
    have a := listText_len_le (PyData.shownAll xs)
    have b := sum_le (f := fun x => x.shown.length) (g := nodes n) fun x hx => (show_le n x (z x hx)).1
    rw [shownAll_eq, List.map_map, List.length_map] at a
    refine ⟨?_, ?_⟩
    · have e2 : (PyData.list xs).shown = listText (xs.map PyData.shown) := by simp only [PyData.shown, shownAll_eq]
      rw [e2]
      simp only [nodes]
      have c : (xs.map ((fun x => x.length) ∘ PyData.shown)).sum = (xs.map fun x => x.shown.length).sum := rfl
      omega
    · simp only [PyData.showable]
      clear a b h
      induction xs with
      | nil => rfl
      | cons x xs ih =>
        simp only [PyData.showableAll, Bool.and_eq_true]
        exact ⟨(show_le n x (z x List.mem_cons_self)).2, ih fun y hy => z y (List.mem_cons_of_mem _ hy)⟩
  | n + 1, .tuple xs, h => by
    have z : ∀ x ∈ xs, sOk n x = true := List.all_eq_true.mp (by simpa [sOk] using h)
    have a := tupleText_len_le (PyData.shownAll xs)
    have b := sum_le (f := fun x => x.shown.length) (g := nodes n) fun x hx => (show_le n x (z x hx)).1
    rw [shownAll_eq, List.map_map, List.length_map] at a
    refine ⟨?_, ?_⟩
    · have e2 : (PyData.tuple xs).shown = tupleText (xs.map PyData.shown) := by simp only [PyData.shown, shownAll_eq]
      rw [e2]
      simp only [nodes]
      have c : (xs.map ((fun x => x.length) ∘ PyData.shown)).sum = (xs.map fun x => x.shown.length).sum := rfl
      omega
    · simp only [PyData.showable]
      clear a b h
      induction xs with
      | nil => rfl
      | cons x xs ih =>
        simp only [PyData.showableAll, Bool.and_eq_true]
        exact ⟨(show_le n x (z x List.mem_cons_self)).2, ih fun y hy => z y (List.mem_cons_of_mem _ hy)⟩
  | 0, .list _, h => by simp [sOk] at h
  | 0, .tuple _, h => by simp [sOk] at h
  | n, .dict _, h => by cases n <;> simp [sOk] at h
theorem reprOk_of {n : Nat} {d : PyData} (hn : n ≤ 32) (h : sOk n d = true) (hz : 26 * nodes n d ≤ 16777216) : reprOk d := by
  obtain ⟨a, b⟩ := show_le n d h
  obtain ⟨c, e⟩ := dOk_ok n d (sOk_dOk n d h)
  exact ⟨b, PyData.hasDict_of_canLay d c, by omega, by rw [sizeLine_eq]; omega⟩
theorem nodes_le {n c : Nat} {xs : List PyData} (h : ∀ x ∈ xs, nodes n x ≤ c) : (xs.map (nodes n)).sum ≤ c * xs.length := by
  induction xs with
  | nil => simp
  | cons x xs ih =>
    simp only [List.map_cons, List.sum_cons, List.length_cons]
    have a := h x List.mem_cons_self
    have b := ih fun y hy => h y (List.mem_cons_of_mem _ hy)
    rw [Nat.mul_succ]
    omega
end DL

namespace DL
open PySem PySem.Spec PyProof.Rows L2
set_option autoImplicit true

theorem put_same {h : MH} {a : Addr} {o : MO} : mput h a o a = some o := if_pos rfl
theorem put_other {h : MH} {a b : Addr} {o : MO} (n : b ≠ a) : mput h a o b = h b := if_neg n
theorem put_put {h : MH} {a : Addr} {o u : MO} : mput (mput h a o) a u = mput h a u := by
  funext b
  unfold mput
  split <;> rfl
theorem put_id {h : MH} {a : Addr} {o : MO} (e : h a = some o) : mput h a o = h := by
  funext b
  unfold mput
  split
  · rename_i q
    rw [q, e]
  · rfl
theorem restr_self {h : MH} {r : SV} : restr h h r = h := by
  funext b
  unfold restr
  cases q : h b with
  | none => simp
  | some o => simp
/-- what was made ahead of a call's end, and is not handed back, is no more -/
theorem restr_drop {h h' : MH} {p : Addr} {o : MO} {d : PyData} (n : h p = none) : restr h (mput h' p o) (.d d) = restr h h' (.d d) := by
  funext b
  unfold restr mput
  by_cases q : b = p
  · subst q
    simp [n, SV.isOwn]
  · simp only [if_neg q]
theorem restr_putd {h h' : MH} {a : Addr} {o : MO} {d : PyData} (e : (h a).isSome = true) : restr h (mput h' a o) (.d d) = mput (restr h h' (.d d)) a o := by
  funext b
  unfold restr mput
  by_cases q : b = a
  · subst q
    simp [e]
  · simp only [if_neg q]
theorem restr_new {h : MH} {p : Addr} {o : MO} (n : h p = none) : restr h (mput h p o) (.own p) = mput h p o := by
  funext b
  unfold restr mput
  by_cases q : b = p
  · subst q
    simp [SV.isOwn]
  · simp only [if_neg q]
    cases z : h b with
    | none => simp
    | some o => simp
section
variable {σ : DSt} {h h' : MH} {Q : DK} {QB : Bool → MH → Prop} {QL : List PyData → MH → Prop} {QA : List SV → MH → Prop} {D : DEnds} {x y z : SV} {i j n m : Int} {d e : PyData} {ta tb tc : DTE} {t u : DTT} {r : DR2} {ts us : DTS} {tA : DTA} {tF : DTF} {xs ys ds es : List PyData} {a p : Addr} {b : Bool}
theorem e_var {i : Nat} (e : slot σ i = some x) (k : Q x h) : dVar i σ h Q := by unfold dVar; rw [e]; exact k
theorem e_c (k : Q (.d d) h) : dC d σ h Q := k
theorem e_op (k : ta σ h fun x h1 => tb σ h1 fun y h2 => r x y h2 Q) : dOp r ta tb σ h Q := k
def testK (QB : Bool → MH → Prop) : DK := fun x h1 => match x with
  | .d (.bool k) => QB k h1
  | _ => False
theorem e_test (k : ta σ h (testK QB)) : dTest ta σ h QB := k
theorem k_test (k : QB b h) : testK QB (.d (.bool b)) h := k
def andK (u : DTT) (σ : DSt) (QB : Bool → MH → Prop) : Bool → MH → Prop := fun c h1 => if c = true then u σ h1 QB else QB false h1
theorem e_and (k : t σ h (andK u σ QB)) : dAnd t u σ h QB := k
theorem k_and (k1 : b = true → u σ h QB) (k2 : b = false → QB false h) : andK u σ QB b h := by
  cases b with
  | true => exact k1 rfl
  | false => exact k2 rfl
def orK (u : DTT) (σ : DSt) (QB : Bool → MH → Prop) : Bool → MH → Prop := fun c h1 => if c = true then QB true h1 else u σ h1 QB
theorem e_or (k : t σ h (orK u σ QB)) : dOr t u σ h QB := k
theorem k_or (k1 : b = true → QB true h) (k2 : b = false → u σ h QB) : orK u σ QB b h := by
  cases b with
  | true => exact k1 rfl
  | false => exact k2 rfl
def notK (QB : Bool → MH → Prop) : Bool → MH → Prop := fun c h1 => QB (!c) h1
theorem e_not (k : t σ h (notK QB)) : dNot t σ h QB := k
theorem k_not (k : QB (!b) h) : notK QB b h := k
def andVK (tb : DTE) (σ : DSt) (Q : DK) : DK := fun x h1 => match x with
  | .d (.bool c) => if c = true then tb σ h1 Q else Q (.d (.bool false)) h1
  | _ => False
theorem e_andV (k : ta σ h (andVK tb σ Q)) : dAndV ta tb σ h Q := k
theorem k_andV (k1 : b = true → tb σ h Q) (k2 : b = false → Q (.d (.bool false)) h) : andVK tb σ Q (.d (.bool b)) h := by
  cases b with
  | true => exact k1 rfl
  | false => exact k2 rfl
def orVK (tb : DTE) (σ : DSt) (Q : DK) : DK := fun x h1 => match x with
  | .d (.bool c) => if c = true then Q (.d (.bool true)) h1 else tb σ h1 Q
  | _ => False
theorem e_orV (k : ta σ h (orVK tb σ Q)) : dOrV ta tb σ h Q := k
theorem k_orV (k1 : b = true → Q (.d (.bool true)) h) (k2 : b = false → tb σ h Q) : orVK tb σ Q (.d (.bool b)) h := by
  cases b with
  | true => exact k1 rfl
  | false => exact k2 rfl
def notVK (Q : DK) : DK := fun x h1 => match x with
  | .d (.bool c) => Q (.d (.bool (!c))) h1
  | _ => False
theorem e_notV (k : ta σ h (notVK Q)) : dNotV ta σ h Q := k
theorem k_notV (k : Q (.d (.bool (!b))) h) : notVK Q (.d (.bool b)) h := k
def ifEK (ta tb : DTE) (σ : DSt) (Q : DK) : Bool → MH → Prop := fun c h1 => if c = true then ta σ h1 Q else tb σ h1 Q
theorem e_ifE (k : t σ h (ifEK ta tb σ Q)) : dIf t ta tb σ h Q := k
theorem k_ifE (k1 : b = true → ta σ h Q) (k2 : b = false → tb σ h Q) : ifEK ta tb σ Q b h := by
  cases b with
  | true => exact k1 rfl
  | false => exact k2 rfl
theorem e_nil (k : QA [] h) : dNil σ h QA := k
theorem e_cons (k : ta σ h fun x h1 => tA σ h1 fun xs h2 => QA (x :: xs) h2) : dCons ta tA σ h QA := k
def tupK (Q : DK) : List SV → MH → Prop := fun xs h1 => match fzs xs h1 with
  | some (ds, h2) => ds.length ≤ sizeLine ∧ Q (.d (.tuple ds)) h2
  | none => False
theorem e_tup (k : tA σ h (tupK Q)) : dTup tA σ h Q := k
theorem k_tup {xs : List SV} (e : fzs xs h = some (ds, h')) (c : Nat.ble ds.length 16777216 = true) (k : Q (.d (.tuple ds)) h') : tupK Q xs h := by unfold tupK; rw [e]; exact ⟨by rw [sizeLine_eq]; exact Nat.le_of_ble_eq_true c, k⟩
def lstK (QL : List PyData → MH → Prop) : List SV → MH → Prop := fun xs h1 => match fzs xs h1 with
  | some (ds, h2) => ds.length ≤ sizeLine ∧ QL ds h2
  | none => False
theorem e_lst (k : tA σ h (lstK QL)) : fLst tA σ h QL := k
theorem k_lst {xs : List SV} (e : fzs xs h = some (ds, h')) (c : Nat.ble ds.length 16777216 = true) (k : QL ds h') : lstK QL xs h := by unfold lstK; rw [e]; exact ⟨by rw [sizeLine_eq]; exact Nat.le_of_ble_eq_true c, k⟩
theorem e_L (k : tF σ h fun ds h' => Q (.d (.list ds)) h') : dL tF σ h Q := k
theorem e_Own (k : tF σ h fun ds h1 => ∀ p, h1 p = none → Q (.own p) (mput h1 p (.lst ds))) : dOwn tF σ h Q := k
theorem e_B {r : DRA} (k : tA σ h fun xs h1 => r xs h1 Q) : dB r tA σ h Q := k
theorem e_fB {r : DRF} (k : tA σ h fun xs h1 => r xs h1 QL) : fB r tA σ h QL := k
theorem e_yes (k : QB true h) : dYes σ h QB := k
theorem e_call {E : DXS} {W : DSp} (k : tA σ h fun xs h1 => W xs h1 Q fun x h2 => E x σ h2) : dCall E W tA σ h Q := k
def mlK (r : DRM) (tA : DTA) (σ : DSt) (Q : DK) : DK := fun x h1 => match asL h1 x with
  | some _ => tA σ h1 fun xs h2 => r x xs h2 Q
  | none => False
theorem e_ML {r : DRM} (k : ta σ h (mlK r tA σ Q)) : dML r ta tA σ h Q := k
theorem k_ML {r : DRM} (e : asL h x = some ds) (k : tA σ h fun xs h2 => r x xs h2 Q) : mlK r tA σ Q x h := by unfold mlK; rw [e]; exact k
theorem e_seq (k : ts { D with nx := fun σ' h' => us D σ' h' } σ h) : dSeq ts us D σ h := k
theorem e_next (k : D.nx σ h) : dNext D σ h := k
theorem e_drop (k : ta σ h fun _ h1 => D.nx σ h1) : dDrop ta D σ h := k
theorem e_ret (k : ta σ h D.rt) : dRet ta D σ h := k
theorem e_retN (k : D.rt (.d .none) h) : dRetN D σ h := k
def retfK (D : DEnds) : DK := fun x h1 => match fz1 x h1 with
  | some (d, h2) => D.rt (.d d) h2
  | none => False
theorem e_retF (k : ta σ h (retfK D)) : dRetF ta D σ h := k
def ifK (ts us : DTS) (D : DEnds) (σ : DSt) : Bool → MH → Prop := fun c h1 => if c = true then ts D σ h1 else us D σ h1
theorem e_if (k : t σ h (ifK ts us D σ)) : dIfS t ts us D σ h := k
theorem k_if (k1 : b = true → ts D σ h) (k2 : b = false → us D σ h) : ifK ts us D σ b h := by
  cases b with
  | true => exact k1 rfl
  | false => exact k2 rfl
theorem k_ifF (k1 : us D σ h) : ifK ts us D σ false h := k1
def asgK (g : Tg) (D : DEnds) (σ : DSt) : DK := fun x h1 => match bindT g x σ with
  | some σ' => D.nx σ' h1
  | none => False
theorem e_asg {g : Tg} (k : ta σ h (asgK g D σ)) : dAsg ta g D σ h := k
theorem k_nm {i : Nat} (k : D.nx (σ.set i (some x)) h) : asgK (.nm i) D σ x h := k
theorem k_tg {is : List Nat} (e : ds.length = is.length) (k : D.nx (setAll is ds σ) h) : asgK (.tup is) D σ (.d (.tuple ds)) h := by
  show (match (if ds.length = is.length then some (setAll is ds σ) else none) with
    | some σ' => D.nx σ' h
    | none => False)
  rw [if_pos e]
  exact k
def parK (i j : Nat) (D : DEnds) (σ : DSt) : List SV → MH → Prop := fun xs h1 => match xs with
  | [x, y] => D.nx ((σ.set i (some x)).set j (some y)) h1
  | _ => False
theorem e_par {i j : Nat} (k : tA σ h (parK i j D σ)) : dPar i j tA D σ h := k
theorem k_par {i j : Nat} (k : D.nx ((σ.set i (some x)).set j (some y)) h) : parK i j D σ [x, y] h := k
def par3K (i j l : Nat) (D : DEnds) (σ : DSt) : List SV → MH → Prop := fun xs h1 => match xs with
  | [x, y, z] => D.nx (((σ.set i (some x)).set j (some y)).set l (some z)) h1
  | _ => False
theorem e_par3 {i j l : Nat} (k : tA σ h (par3K i j l D σ)) : dPar3 i j l tA D σ h := k
theorem k_par3 {i j l : Nat} (k : D.nx (((σ.set i (some x)).set j (some y)).set l (some z)) h) : par3K i j l D σ [x, y, z] h := k
def setK (D : DEnds) (σ : DSt) (y x i : SV) (h3 : MH) : Prop := match ownO h3 x with
  | some p => match setO p.2 i y with
    | some o => D.nx σ (mput h3 p.1 o)
    | none => False
  | none => match fz1 y h3 with
    | some (d, h4) => match ownL h4 x, asInt i with
      | some (a, ds), some k => match ixN ds.length k with
        | some j => D.nx σ (mput h4 a (.lst (ds.set j d)))
        | none => False
      | _, _ => False
    | none => False
theorem e_setIx (k : ta σ h fun y h1 => tb σ h1 fun x h2 => tc σ h2 fun i h3 => setK D σ y x i h3) : dSetIx ta tb tc D σ h := k
theorem k_set {j : Nat} (e : h a = some (.lst ds)) (e2 : ixN ds.length n = some j) (k : D.nx σ (mput h a (.lst (ds.set j d)))) : setK D σ (.d d) (.own a) (.d (.int n)) h := by
  have q0 : ownO h (.own a) = none := by simp only [ownO, e]
  unfold setK
  rw [q0]
  show (match ownL h (.own a), some n with
    | some (a, ds), some k => (match ixN ds.length k with
      | some j => D.nx σ (mput h a (.lst (ds.set j d)))
      | none => False)
    | _, _ => False)
  have q : ownL h (.own a) = some (a, ds) := by simp only [ownL, e]
  rw [q]
  show (match ixN ds.length n with
      | some j => D.nx σ (mput h a (.lst (ds.set j d)))
      | none => False)
  rw [e2]
  exact k
/-- a dict of one's own is written -/
theorem k_setD {ps : List (Key × SV)} {kk : Key} (e : h a = some (.dct ps)) (e2 : asKey y = some kk) (hl : ps.length < 16777216) (k : D.nx σ (mput h a (.dct (putS ps kk x)))) : setK D σ x (.own a) y h := by
  have q0 : ownO h (.own a) = some (a, .dct ps) := by simp only [ownO, e]
  have q1 : setO (.dct ps) y x = some (.dct (putS ps kk x)) := by
    unfold setO
    simp only [e2]
    rw [if_pos (by simpa using hl)]
  unfold setK
  rw [q0]
  simp only [q1]
  exact k
theorem r_ixD {ps : List (Key × SV)} {kk : Key} {z : SV} (e : h a = some (.dct ps)) (e2 : asKey y = some kk) (e3 : valS ps kk = some z) (k : Q z h) : rdIx (.own a) y h Q := by
  have q0 : ownO h (.own a) = some (a, .dct ps) := by simp only [ownO, e]
  unfold rdIx
  rw [q0]
  simp only [ixO, e2, e3]
  exact k
theorem r_notInDc {ps : List (Key × SV)} {kk : Key} (e : h a = some (.dct ps)) (e2 : asKey x = some kk) (k : Q (.d (.bool (!(valS ps kk).isSome))) h) : rdNotInL x (.own a) h Q := by
  have q0 : ownO h (.own a) = some (a, .dct ps) := by simp only [ownO, e]
  unfold rdNotInL
  rw [q0]
  simp only [inO, e2]
  exact k
theorem e_for {w : DTI} {g : Tg} (k : w σ h fun ds h1 => forL g ts D ds σ h1) : dFor w g ts D σ h := k
theorem e_rt {h0 : MH} (k : Q x (restr h0 h x)) : (dEnd h0 Q).rt x h := ⟨_, restr_sub, k⟩
theorem e_nx {h0 : MH} (k : Q (.d .none) (restr h0 h (.d .none))) : (dEnd h0 Q).nx σ h := ⟨_, restr_sub, k⟩
theorem r_add (k : Q (.d (.int (i + j))) h) : rdAdd (.d (.int i)) (.d (.int j)) h Q := k
theorem r_addL (c : xs.length + ys.length ≤ 16777216) (k : Q (.d (.list (xs ++ ys))) h) : rdAdd (.d (.list xs)) (.d (.list ys)) h Q := ⟨by rw [sizeLine_eq]; exact c, k⟩
theorem r_sub (k : Q (.d (.int (i - j))) h) : rdSub (.d (.int i)) (.d (.int j)) h Q := k
theorem r_mul (c : CMul i j) (k : Q (.d (.int (i * j))) h) : rdMul (.d (.int i)) (.d (.int j)) h Q := ⟨c, k⟩
theorem r_div (c : CDivN i j) (k : Q (.d (.int (i.fdiv j))) h) : rdDiv (.d (.int i)) (.d (.int j)) h Q := ⟨c, k⟩
theorem r_mod (c : j ≠ 0) (k : Q (.d (.int (i.fmod j))) h) : rdMod (.d (.int i)) (.d (.int j)) h Q := ⟨c, k⟩
theorem r_pow (c : CPow i j) (k : Q (.d (.int (i ^ j.toNat))) h) : rdPow (.d (.int i)) (.d (.int j)) h Q := ⟨c, k⟩
theorem r_lt (k : Q (.d (.bool (decide (i < j)))) h) : rdLt (.d (.int i)) (.d (.int j)) h Q := k
theorem r_le (k : Q (.d (.bool (decide (i ≤ j)))) h) : rdLe (.d (.int i)) (.d (.int j)) h Q := k
theorem r_gt (k : Q (.d (.bool (decide (j < i)))) h) : rdGt (.d (.int i)) (.d (.int j)) h Q := k
theorem r_ge (k : Q (.d (.bool (decide (j ≤ i)))) h) : rdGe (.d (.int i)) (.d (.int j)) h Q := k
theorem r_eq (e1 : asD h x = some d) (e2 : asD h y = some e) (s1 : SeqAt.shaped d = true) (s2 : SeqAt.shaped e = true) (k : Q (.d (.bool (PyData.eqv d e))) h) : rdEq x y h Q := by unfold rdEq; rw [e1, e2]; exact ⟨.inl ⟨s1, s2⟩, k⟩
theorem r_ne (e1 : asD h x = some d) (e2 : asD h y = some e) (s1 : SeqAt.shaped d = true) (s2 : SeqAt.shaped e = true) (k : Q (.d (.bool (!PyData.eqv d e))) h) : rdNe x y h Q := by unfold rdNe; rw [e1, e2]; exact ⟨.inl ⟨s1, s2⟩, k⟩
theorem r_eqI (k : Q (.d (.bool (decide (i = j)))) h) : rdEq (.d (.int i)) (.d (.int j)) h Q := ⟨.inl ⟨rfl, rfl⟩, by
  have z : PyData.eqv (.int i) (.int j) = decide (i = j) := by simp only [PyData.eqv]; by_cases q : i = j <;> simp [q]
  rw [z]; exact k⟩
theorem r_neI (k : Q (.d (.bool (!decide (i = j)))) h) : rdNe (.d (.int i)) (.d (.int j)) h Q := ⟨.inl ⟨rfl, rfl⟩, by
  have z : PyData.eqv (.int i) (.int j) = decide (i = j) := by simp only [PyData.eqv]; by_cases q : i = j <;> simp [q]
  rw [z]; exact k⟩
theorem r_eqS {s1 s2 : Str} (k : Q (.d (.bool (s1 == s2))) h) : rdEq (.d (.str s1)) (.d (.str s2)) h Q := ⟨.inr rfl, by
  have z : PyData.eqv (.str s1) (.str s2) = (s1 == s2) := by simp only [PyData.eqv]
  rw [z]; exact k⟩
theorem r_neS {s1 s2 : Str} (k : Q (.d (.bool (!(s1 == s2)))) h) : rdNe (.d (.str s1)) (.d (.str s2)) h Q := ⟨.inr rfl, by
  have z : PyData.eqv (.str s1) (.str s2) = (s1 == s2) := by simp only [PyData.eqv]
  rw [z]; exact k⟩
theorem r_isN (k : Q (.d (.bool (isNone x))) h) : rdIsN x (.d .none) h Q := ⟨rfl, k⟩
theorem r_notN (k : Q (.d (.bool (!isNone x))) h) : rdNotN x (.d .none) h Q := ⟨rfl, k⟩
theorem r_ix (e0 : asStr x = none) (e1 : asQ h x = some xs) (e2 : atI xs n = some d) (k : Q (.d d) h) : rdIx x (.d (.int n)) h Q := by
  unfold rdIx
  rw [ownO_asQ e1]
  show (match asStr x with
    | some z => (match atI z.cps.toList n with
      | some c => z.length ≤ sizeLine ∧ Q (.d (.str ⟨#[c]⟩)) h
      | none => False)
    | none => (match asQ h x with
      | some xs => (match atI xs n with
        | some d => Q (.d d) h
        | none => False)
      | none => False))
  rw [e0]
  show (match asQ h x with
      | some xs => (match atI xs n with
        | some d => Q (.d d) h
        | none => False)
      | none => False)
  rw [e1]
  show (match atI xs n with
        | some d => Q (.d d) h
        | none => False)
  rw [e2]
  exact k
theorem r_ixT (e2 : atI xs n = some d) (k : Q (.d d) h) : rdIx (.d (.tuple xs)) (.d (.int n)) h Q := r_ix rfl rfl e2 k
theorem r_ixL (e2 : atI xs n = some d) (k : Q (.d d) h) : rdIx (.d (.list xs)) (.d (.int n)) h Q := r_ix rfl rfl e2 k
theorem asQ_own (e : h a = some (.lst xs)) : asQ h (.own a) = some xs := by unfold asQ asL; simp only [e]
theorem asL_own (e : h a = some (.lst xs)) : asL h (.own a) = some xs := by unfold asL; simp only [e]
theorem ownL_own (e : h a = some (.lst xs)) : ownL h (.own a) = some (a, xs) := by unfold ownL; simp only [e]
theorem r_ixO (e1 : h a = some (.lst xs)) (e2 : atI xs n = some d) (k : Q (.d d) h) : rdIx (.own a) (.d (.int n)) h Q := r_ix rfl (asQ_own e1) e2 k
theorem r_inL (e1 : asD h x = some d) (e2 : asL h y = some ds) (s1 : SeqAt.shaped d = true) (s2 : SeqAt.shaped (.list ds) = true) (k : Q (.d (.bool (ds.any fun z => PyData.eqv z d))) h) : rdInL x y h Q := by unfold rdInL; rw [ownO_asL e2]; simp only []; rw [e1, e2]; exact ⟨s1, s2, k⟩
theorem r_notInL (e1 : asD h x = some d) (e2 : asL h y = some ds) (s1 : SeqAt.shaped d = true) (s2 : SeqAt.shaped (.list ds) = true) (k : Q (.d (.bool (!ds.any fun z => PyData.eqv z d))) h) : rdNotInL x y h Q := by unfold rdNotInL; rw [ownO_asL e2]; simp only []; rw [e1, e2]; exact ⟨s1, s2, k⟩
theorem r_neg (k : ta σ h fun x h1 => match asInt x with
  | some i => Q (.d (.int (-i))) h1
  | none => False) : dNeg ta σ h Q := k
theorem e_negC (k : Q (.d (.int (-i))) h) : dNeg (dC (.int i)) σ h Q := k
theorem b_len (e1 : asStr x = none) (e2 : asQ h x = some xs) (k : Q (.d (.int (xs.length : Nat))) h) : rdLen [x] h Q := by
  have q := ownO_asQ e2
  unfold rdLen
  simp only [q, e1, e2]
  exact k
theorem b_lenT (k : Q (.d (.int (xs.length : Nat))) h) : rdLen [.d (.tuple xs)] h Q := b_len rfl rfl k
theorem b_lenL (k : Q (.d (.int (xs.length : Nat))) h) : rdLen [.d (.list xs)] h Q := b_len rfl rfl k
theorem b_lenO (e : h a = some (.lst xs)) (k : Q (.d (.int (xs.length : Nat))) h) : rdLen [.own a] h Q := b_len rfl (asQ_own e) k
theorem b_tuple (e2 : asQ h x = some xs) (k : Q (.d (.tuple xs)) h) : rdTuple [x] h Q := by unfold rdTuple; simp only [e2]; exact k
theorem b_tupleL (k : Q (.d (.tuple xs)) h) : rdTuple [.d (.list xs)] h Q := k
theorem b_listL (k : QL xs h) : rfList [.d (.list xs)] h QL := k
theorem b_listT (k : QL xs h) : rfList [.d (.tuple xs)] h QL := k
theorem b_intI (k : Q (.d (.int i)) h) : rdInt [.d (.int i)] h Q := k
theorem b_intB (k : Q (.d (.int (if b then 1 else 0))) h) : rdInt [.d (.bool b)] h Q := k
theorem b_repr (c : reprOk d) (k : Q (.d (.str d.shown)) h) : rdRepr [.d d] h Q := ⟨c, k⟩
def byK (QL : List PyData → MH → Prop) : List SV → MH → Prop := fun xs h1 => match xs with
  | [x] => match asQ h1 x with
    | some ds => byOk ds ∧ QL (ds.mergeSort leBy) h1
    | none => False
  | _ => False
theorem e_by (k : tA σ h (byK QL)) : fBy tA σ h QL := k
def faddK (QL : List PyData → MH → Prop) (x y : SV) (h2 : MH) : Prop := match asL h2 x, asL h2 y with
  | some a, some b => a.length + b.length ≤ sizeLine ∧ QL (a ++ b) h2
  | _, _ => False
theorem e_fAdd (k : ta σ h fun x h1 => tb σ h1 fun y h2 => faddK QL x y h2) : fAdd ta tb σ h QL := k
def rg1K (QL : List PyData → MH → Prop) : DK := fun x h1 => match asInt x with
  | some n => n ≤ 16777216 ∧ -16777216 ≤ n ∧ QL (rgD 0 n) h1
  | none => False
theorem e_lrg1 (k : ta σ h (rg1K QL)) : fLstRg1 ta σ h QL := k
def rg2K (QL : List PyData → MH → Prop) (x y : SV) (h2 : MH) : Prop := match asInt x, asInt y with
  | some n, some m => (0 ≤ n ∧ n ≤ 16777216 ∧ -16777216 ≤ m ∧ m ≤ 16777216) ∧ QL (rgD n m) h2
  | _, _ => False
theorem e_lrg2 (k : ta σ h fun x h1 => tb σ h1 fun y h2 => rg2K QL x y h2) : fLstRg2 ta tb σ h QL := k
theorem e_sl {tl th : DTO} (k : ta σ h fun x h1 => tl σ h1 fun lo h2 => th σ h2 fun hi h3 => rdSl x lo hi h3 Q) : dSl ta tl th σ h Q := k
theorem e_no {QO : Option Int → MH → Prop} (k : QO none h) : dNoPart σ h QO := k
def partK (QO : Option Int → MH → Prop) : DK := fun x h1 => match asInt x with
  | some i => QO (some i) h1
  | none => False
theorem e_part {QO : Option Int → MH → Prop} (k : ta σ h (partK QO)) : dPart ta σ h QO := k
theorem k_part {QO : Option Int → MH → Prop} (k : QO (some i) h) : partK QO (.d (.int i)) h := k
theorem r_slL {lo hi : Option Int} (k : Q (.d (.list (cutD xs lo hi))) h) : rdSl (.d (.list xs)) lo hi h Q := k
theorem r_slT {lo hi : Option Int} (k : Q (.d (.tuple (cutD xs lo hi))) h) : rdSl (.d (.tuple xs)) lo hi h Q := k
theorem m_append (e : h a = some (.lst ds)) (c : ds.length < 16777216) (k : Q (.d .none) (mput h a (.lst (ds ++ [d])))) : rdAppend (.own a) [.d d] h Q := by
  unfold rdAppend fz1
  simp only [ownL_own e]
  exact ⟨by rw [sizeLine_eq]; exact c, k⟩
def seqK (QL : List PyData → MH → Prop) : DK := fun x h1 => match fz1 x h1 with
  | some (.list ds, h2) => QL ds h2
  | some (.tuple ds, h2) => QL ds h2
  | _ => False
theorem e_wSeq (k : ta σ h (seqK QL)) : wSeq ta σ h QL := k
theorem k_seqL (k : QL ds h) : seqK QL (.d (.list ds)) h := k
theorem k_seqT (k : QL ds h) : seqK QL (.d (.tuple ds)) h := k
theorem k_seqO (e : h a = some (.lst ds)) (k : QL ds (mdrop h a)) : seqK QL (.own a) h := by unfold seqK fz1; simp only [e]; exact k
def wr1K (QL : List PyData → MH → Prop) : DK := fun x h1 => match asInt x with
  | some n => (-(2 ^ 62) ≤ n ∧ n < 2 ^ 62) ∧ QL (rgD 0 n) h1
  | none => False
theorem e_wRg1 (k : ta σ h (wr1K QL)) : wRg1 ta σ h QL := k
theorem k_wRg1 (c : -(2 ^ 62) ≤ n ∧ n < 2 ^ 62) (k : QL (rgD 0 n) h) : wr1K QL (.d (.int n)) h := ⟨c, k⟩
theorem e_fLc {w : DTI} {g : Tg} {vs : List Nat} (k : w σ h fun ds h1 => ds.length ≤ sizeLine ∧ lcL g t ta (wipeD σ vs) ds [] h1 QL) : fLc w g t ta vs σ h QL := k
end

/-- a loop by what holds ahead of each turn; K: what comes behind the turn -/
theorem for_inv {g : Tg} {tb : DTS} {D : DEnds} (I : List PyData → DSt → MH → Prop) (step : ∀ d r σ h (K : DSt → MH → Prop), I (d :: r) σ h → (∀ σ' h', I r σ' h' → K σ' h') → ∃ σ1, bindT g (.d d) σ = some σ1 ∧ tb { nx := K, ct := K, bk := D.nx, rt := D.rt } σ1 h)
    (fin : ∀ σ h, I [] σ h → D.nx σ h) : ∀ ds σ h, I ds σ h → forL g tb D ds σ h
  | [], σ, h, i => fin σ h i
  | d :: r, σ, h, i => by
    obtain ⟨σ1, e, w⟩ := step d r σ h (fun σ' h' => forL g tb D r σ' h') i fun σ' h' i' => for_inv I step fin r σ' h' i'
    unfold forL
    rw [e]
    exact w
def lcK (te : DTE) (σ1 : DSt) (acc : List PyData) (K : List PyData → MH → Prop) : Bool → MH → Prop := fun b h1 => if b = true then te σ1 h1 fun y h2 => match fz1 y h2 with
        | some (z, h3) => K (acc ++ [z]) h3
        | none => False
      else K acc h1
def lcE (acc : List PyData) (K : List PyData → MH → Prop) : DK := fun y h2 => match fz1 y h2 with
        | some (z, h3) => K (acc ++ [z]) h3
        | none => False
theorem k_lc {te : DTE} {σ1 : DSt} {acc : List PyData} {K : List PyData → MH → Prop} {b : Bool} {h : MH} (k1 : b = true → te σ1 h (lcE acc K)) (k2 : b = false → K acc h) : lcK te σ1 acc K b h := by
  cases b with
  | true => exact k1 rfl
  | false => exact k2 rfl
theorem k_lcE {acc : List PyData} {K : List PyData → MH → Prop} {d : PyData} {h : MH} (k : K (acc ++ [d]) h) : lcE acc K (.d d) h := k
theorem lc_inv {g : Tg} {tt : DTT} {te : DTE} {σ : DSt} {Q : List PyData → MH → Prop} (I : List PyData → List PyData → MH → Prop) (step : ∀ d r acc h (K : List PyData → MH → Prop), I (d :: r) acc h → (∀ acc' h', I r acc' h' → K acc' h') → ∃ σ1, bindT g (.d d) σ = some σ1 ∧ tt σ1 h (lcK te σ1 acc K))
    (fin : ∀ acc h, I [] acc h → Q acc h) : ∀ ds acc h, I ds acc h → lcL g tt te σ ds acc h Q
  | [], acc, h, i => fin acc h i
  | d :: r, acc, h, i => by
    obtain ⟨σ1, e, w⟩ := step d r acc h (fun acc' h' => lcL g tt te σ r acc' h' Q) i fun acc' h' i' => lc_inv I step fin r acc' h' i'
    unfold lcL
    rw [e]
    exact w
/-- a comprehension that changes nothing -/
theorem lc_pure {g : Tg} {tt : DTT} {te : DTE} {σ : DSt} {Q : List PyData → MH → Prop} {h : MH} (b : PyData → Bool) (f : PyData → PyData) {ds : List PyData}
    (step : ∀ d ∈ ds, ∃ σ1, bindT g (.d d) σ = some σ1 ∧ (∀ K : Bool → MH → Prop, K (b d) h → tt σ1 h K) ∧ (b d = true → ∀ K : DK, K (.d (f d)) h → te σ1 h K)) (fin : Q ((ds.filter b).map f) h) : lcL g tt te σ ds [] h Q := by
  refine lc_inv (fun r acc h' => ∃ l, ds = l ++ r ∧ acc = (l.filter b).map f ∧ h' = h) ?_ ?_ ds [] h ⟨[], rfl, rfl, rfl⟩
  · rintro d r acc h' K ⟨l, e, ea, rfl⟩ hK
    obtain ⟨σ1, e1, t1, t2⟩ := step d (by rw [e]; simp)
    refine ⟨σ1, e1, t1 _ ?_⟩
    refine k_lc (fun q => t2 q _ ?_) fun q => ?_
    · exact k_lcE (hK _ _ ⟨l ++ [d], by rw [e]; simp, by rw [List.filter_append, List.map_append, ← ea]; simp [q], rfl⟩)
    · exact hK _ _ ⟨l ++ [d], by rw [e]; simp, by rw [List.filter_append, List.map_append, ← ea]; simp [q], rfl⟩
  · rintro acc h' ⟨l, e, ea, rfl⟩
    rw [List.append_nil] at e
    subst e
    rw [ea]
    exact fin
end DL

namespace DL
open PySem PySem.Spec PyProof.Rows L2
set_option autoImplicit true

section
open PySem.W PySem.Calls PySem.HandSPX Builtin Builtin.ObjectAttr
variable {prog : Program} {w : World} {A : Around} {E : Value → Shared → Prop} {R : Result → Shared → Prop} {hp : Heap} {g : Array GenState} {d : Drawn} {t : Nat} {os : OsState} {B newId initId : String} {bmB : List Value}
/-- the first field of a fresh error -/
theorem put_first {K : Frag} {f : Str} {tk : Tok} {u : Value} {e C : Addr} {fv : Array Value} {cd : ClassData} (SF : StoreFacts B bmB "object.__setattr__" "object") (X : K.In hp) (he : hp.get? e = some { cls := .ref C, data := .fields fv }) (hc : clsIn K C = some cd) (ho : excOver K C bmB = true) (hd : cd.hasDict = true) (ht : takerIn K C f = some none)
    (k : ∀ h' tk' dx, (∀ b o, b ≠ e → hp.get? b = some o → h'.get? b = some o) → hp.objs.size ≤ dx → dx ≠ e → h'.get? e = some { cls := .ref C, dict := some dx, data := .fields fv } → h'.Ns1 dx (fun y => if y = f then some u else none) → R (.ok (.ret .none)) ⟨h', g, d, tk', os⟩) :
    codeAny (model prog w) A (.call (.builtin "object.__setattr__") ⟨[.ref e, .str f tk, u], []⟩) R ⟨hp, g, d, t, os⟩ := by
  have hes : e ≠ hp.objs.size := Nat.ne_of_lt (Heap.lt_size he)
  refine osa_openX (od := none) SF X ⟨he, rfl, rfl, trivial⟩ ho ht fun b => ?_
  have hl : Looks (model prog w) hp (classData C) cd := looks_clsIn X hc
  show wpAny _ _ (storeInOwnDict (.ref e) (.ref C) (.str f tk) f u b) _ _ _
  obtain ⟨nm, bs, mro, ns, qn, hd', sn, sb, ab, col, del⟩ := cd
  dsimp only at hd
  subst hd
  unfold storeInOwnDict ownDictForStores
  repeat (first | with_reducible refine store_in_new ?_ ?_ | with_reducible refine wpAny_loadPart_at he ?_ | with_reducible refine hl.at ?_ | wp_step)
  · exact ⟨_, #[], _, (Heap.get?_update_ne _ _ _ _ hes.symm).trans (Heap.get?_push_at rfl rfl), rfl, fun e he => absurd he (by simp), fun _ => rfl⟩
  · intro h' tk' n1 s1
    have he1 : (hp.push { cls := .type "dict", data := .dict #[] }).get? e = some { cls := .ref C, data := .fields fv } := Heap.get?_push_of_some _ he
    refine k h' tk' hp.objs.size (fun b o hb hbo => ?_) (Nat.le_refl _) hes.symm ?_ n1
    · exact (s1.2 b (Nat.ne_of_lt (Heap.lt_size hbo))).trans ((Heap.get?_update_ne _ _ _ _ hb).trans (Heap.get?_push_of_some _ hbo))
    · exact (s1.2 e hes).trans (Heap.get?_update_self _ he1 rfl)
/-- a further field -/
theorem put_more {K : Frag} {f : Str} {tk : Tok} {u : Value} {e C dx : Addr} {fv : Array Value} {cd : ClassData} {m0 : Str → Option Value} {nl : List Str} (SF : StoreFacts B bmB "object.__setattr__" "object") (X : K.In hp) (he : hp.get? e = some { cls := .ref C, dict := some dx, data := .fields fv })
    (hn : hp.Ns1 dx m0) (hw : Within m0 nl) (hz : nl.length ≤ 1000) (hc : clsIn K C = some cd) (ho : excOver K C bmB = true) (hd : cd.hasDict = true) (ht : takerIn K C f = some none)
    (k : ∀ h' tk', (∀ b o, b ≠ dx → hp.get? b = some o → h'.get? b = some o) → h'.Ns1 dx (fun y => if y = f then some u else m0 y) → R (.ok (.ret .none)) ⟨h', g, d, tk', os⟩) :
    codeAny (model prog w) A (.call (.builtin "object.__setattr__") ⟨[.ref e, .str f tk, u], []⟩) R ⟨hp, g, d, t, os⟩ := by
  obtain ⟨oD, esD, epD, hoD, hdD, _⟩ := hn.count hw
  refine osa_openX (od := some oD) SF X ⟨he, rfl, rfl, hoD⟩ ho ht fun b => ?_
  have hl : Looks (model prog w) hp (classData C) cd := looks_clsIn X hc
  show wpAny _ _ (storeInOwnDict (.ref e) (.ref C) (.str f tk) f u b) _ _ _
  obtain ⟨nm, bs, mro, ns, qn, hd', sn, sb, ab, col, del⟩ := cd
  dsimp only at hd
  subst hd
  unfold storeInOwnDict ownDictForStores
  repeat (first | with_reducible refine PySem.OEX.store_in_old hn hw hz ?_ | with_reducible refine wpAny_loadPart_at he ?_ | with_reducible refine hl.at ?_ | wp_step)
  intro h' tk' n1 s1
  exact k h' tk' (fun b o hb hbo => (s1.2 b hb).trans hbo) n1
end
/-- what the written part says of the error class x at C, its base's name and place, its __init__ at fI, its fields -/
structure ErrC (K : PySem.W.Frag) (mg : Str → Option Value) (x base : Str) (C Cb fI : Addr) (fs : List Str) (B newId initId : String) (bmB : List Value) : Prop where
  gC : mg x = some (.ref C)
  gB : mg base = some (.ref Cb)
  cls : ∃ nm q N bs bm sn sub ab col dd k0 k1 k2 k3 k5, K.lookup C = some (PySem.excClassObj nm q C N bs bm true sn sub ab col dd k0 k1 k2 k3 k5 newId) ∧ PySem.W.excTail bmB bm = true
  FB : PySem.ExcBaseFacts B newId initId bmB
  SF : PySem.StoreFacts B bmB "object.__setattr__" "object"
  ov : PySem.W.excOver K C bmB = true
  sa : PySem.W.findIn K (.ref C) "__setattr__" = some (some (.builtin "object.__setattr__"))
  ga : PySem.W.findIn K (.ref C) "__getattribute__" = some (some (.builtin "BaseException.__getattribute__"))
  gg : PySem.W.findIn K (.ref C) "__getattr__" = some none
  tk : ∀ f ∈ fs, PySem.W.takerIn K C f = some none
  no : ∀ f ∈ fs, PySem.W.findIn K (.ref C) f = some none
  iC : PySem.W.findIn K (.ref C) "__init__" = some (some (.ref fI))
  tC : PySem.W.typeIn K (.ref fI) = some (.type "function")
  kC : PySem.W.keepIn K (.ref C) = true
  exC : PySem.W.subIn K (.ref C) (.type "BaseException") = some true
  tyC : PySem.W.typeIn K (.ref C) = some (.type "type")
  hdC : PySem.W.hasDictIn K C = true
  rdB : PySem.W.readsIn K Cb (.type "type") = true
  gaB : PySem.W.specialIn K (.ref Cb) "__getattribute__" = some (some (.builtin "type.__getattribute__"))
  hI : PySem.W.handedIn (.builtin initId) = true
  biB : PySem.W.findCls K (.ref Cb) (.type "type") "__init__" = some (.val (.builtin initId))

abbrev eCall (base : Str) (q1 q2 q3 q4 q5 : Pos) : Stmt := .Expr (.Call (.Attribute (.Name base q1) "__init__" q2) [.Name "self" q3] [] q4) q5
abbrev ePut (f : Str) (q1 q2 q3 q4 : Pos) : Stmt := .Assign [.Attribute (.Name "self" q1) f q2] (.Name f q3) q4
/-- the scope of such an __init__ -/
structure EScope (scope : Scope) (base : Str) (fs : List Str) : Prop where
  kind : scope.kind = .function
  co : scope.isCoroutine = false
  gen : scope.isGenerator = false
  me : scope.names.lookup ("self" : Str) = some .local
  base : scope.names.lookup base = some .globalImplicit
  fs : ∀ f ∈ fs, scope.names.lookup f = some .local ∧ f ≠ ("self" : Str) ∧ (f == ("__debug__" : Str)) = false
/-- what __init__ leaves of a fresh error at e -/
structure EInit (h h' : Heap) (e C dx t1 : Addr) (m : Str → Option Value) : Prop where
  keep : ∀ b o, b ≠ e → h.get? b = some o → h'.get? b = some o
  obj : h'.get? e = some { cls := .ref C, dict := some dx, data := .fields #[.ref t1, .none, .none, .none, .bool false, .none] }
  big : h.objs.size ≤ dx
  ne : dx ≠ e
  ns : h'.Ns1 dx m
section
open PySem.W PySem.Calls PySem.HandSPX
variable {prog : Program} {w : World} {A : Around} {R : Result → Shared → Prop} {s : Shared} {K : Frag} {mg : Str → Option Value} {x base qual : Str} {C Cb fI : Addr} {B newId initId : String} {bmB : List Value} {params : Arguments} {scope : Scope} {fd : FuncData}
theorem e_load {M : Model} {A : Around} {E : Value → Shared → Prop} {s : Shared} {env : Env} {m : Str → Option Value} {y : Str} {pos : Pos} {v : Value} {Q : Value → Shared → Prop} (hk : env.scope.kind = .function) (hl : env.kindOf y = some .local) (hn : s.heap.Ns env.locals m) (hv : m y = some v) (k : Q v s)
    (hd : (y == ("__debug__" : Str)) = false) : wpAny M A (eval (.Name y pos) env) Q E s := wpAny_Name (wpAny_loadName_local hk hl hn hv k) hd
theorem bind2 {kindOf : Str → Option NameKind} {f : Str} {a v : Value} (h1 : kindOf "self" = some .local) (h2 : kindOf f = some .local) (ne : f ≠ ("self" : Str)) : bindL kindOf [("self", a), (f, v)] (fun _ => none) "self" = some a ∧ bindL kindOf [("self", a), (f, v)] (fun _ => none) f = some v := by
  have ne' : ¬ ("self" : Str) = f := fun z => ne z.symm
  constructor
  · simp [bindL, h1, h2, ne']
  · simp [bindL, h1, h2]
/-- a made error -/
structure EMade (h h' : Heap) (e C dx : Addr) (m : Str → Option Value) : Prop where
  keep : ∀ b o, h.get? b = some o → h'.get? b = some o
  new : h.objs.size ≤ e
  obj : ∃ oe vs, h'.get? e = some oe ∧ oe.cls = .ref C ∧ oe.dict = some dx ∧ oe.data = .fields vs ∧ vs[1]? = some .none
  big : h.objs.size ≤ dx
  ne : dx ≠ e
  ns : h'.Ns1 dx m
theorem err_made {fs : List Str} {vs : List Value} {m : Str → Option Value} (T : ErrC K mg x base C Cb fI fs B newId initId bmB) (X : K.In s.heap) (hlim : s.heap.NoLimit) (hglo : s.heap.Ns mainGlobals mg) (hroom : A.depth + 1 < recursionLimit) (hz : vs.length ≤ sizeLine)
    (init : ∀ {A : Around} {R : Result → Shared → Prop} {s : Shared} {e t0 : Addr}, K.In s.heap → s.heap.NoLimit → s.heap.Ns mainGlobals mg → s.heap.get? e = some (excO C t0) → K.lookup e = none → A.depth < recursionLimit →
      (∀ h' tk dx t1, EInit s.heap h' e C dx t1 m → R (.ok (.ret .none)) { s with heap := h', toks := tk }) → codeAny (model prog w) A (.call (.ref fI) ⟨.ref e :: vs, []⟩) R s)
    (k : ∀ h' tk e dx, EMade s.heap h' e C dx m → R (.ok (.ret (.ref e))) { s with heap := h', toks := tk }) : codeAny (model prog w) A (.call (.ref C) ⟨vs, []⟩) R s := by
  obtain ⟨nm, q, N, bs, bm, sn, sub, ab, col, dd, k0, k1, k2, k3, k5, hC, hbm⟩ := T.cls
  obtain ⟨hp, g, dr, tk, os⟩ := s
  have up : ∀ b o, hp.get? b = some o → ((hp.push (kdv_tup vs)).push (excO C hp.objs.size)).get? b = some o := fun b o z => Heap.get?_push_of_some _ (Heap.get?_push_of_some _ z)
  have at_ : ((hp.push (kdv_tup vs)).push (excO C hp.objs.size)).get? (hp.objs.size + 1) = some (excO C hp.objs.size) := by
    have z := Heap.get?_push_size (hp.push (kdv_tup vs)) (o := excO C hp.objs.size) rfl
    rw [Heap.size_push] at z
    exact z
  have fresh : K.lookup (hp.objs.size + 1) = none := by
    cases z : K.lookup (hp.objs.size + 1) with
    | none => rfl
    | some o => exact absurd (Heap.lt_size (X _ _ z)) (Nat.not_lt.mpr (Nat.le_succ hp.objs.size))
  refine call_own T.FB (fun Y => excTail_contains Y bm hbm) (X _ _ hC) (looks_findIn X T.iC) (fun self => bind_fn X self T.tC) hz ?_
  refine init (s := ⟨(hp.push (kdv_tup vs)).push (excO C hp.objs.size), g, dr, tk, os⟩) (X.keeps up) (hlim.keeps up) (hglo.keeps up) at_ fresh (show A.depth + 1 < recursionLimit from hroom) fun h' tk' dx t1 M => ?_
  have old : ∀ b o, hp.get? b = some o → h'.get? b = some o := fun b o z => M.keep b o (Nat.ne_of_lt (Nat.lt_succ_of_lt (Heap.lt_size z))) (up b o z)
  have big : hp.objs.size + 1 + 1 ≤ dx := by
    have z := M.big
    rw [Heap.size_push, Heap.size_push] at z
    exact z
  exact ⟨rfl, k h' tk' (hp.objs.size + 1) dx ⟨old, Nat.le_succ _, ⟨_, _, M.obj, rfl, rfl, rfl, rfl⟩, Nat.le_trans (Nat.le_trans (Nat.le_succ _) (Nat.le_succ _)) big, M.ne, M.ns⟩⟩
end

section
variable {X : Cx} {x base f : Str} {C Cb fI : Addr} {B newId initId : String} {bmB : List Value}
/-- raise C(e) -/
def dRaise1 (E : DXS) (n f : Str) (t : DTA) : DTS := fun _ σ h => t σ h fun xs h1 => match fzs xs h1 with
  | some ([d], h2) => E ⟨n, [(f, d)]⟩ σ h2
  | _ => False
end
end DL

namespace DL
open PySem PySem.Spec PyProof.Rows L2
set_option autoImplicit true

theorem RM.un {K : PySem.W.Frag} {H H0 : Hp} {h h0 : MH} (r : RM K (Γ.at H0 h0) H h) : RM K Γ H h := ⟨r.ob, r.g.1, r.nx, r.tb⟩
theorem RM.unE {K K' : PySem.W.Frag} {H : Hp} {h : MH} {y : DExc} {cls : Value} {d : Option Addr} (r : RM K (Γ.exc K' y cls d) H h) : RM K Γ H h := ⟨r.ob, r.g.1, r.nx, r.tb⟩
def dWas (kt : Str → Str → Option Bool) (n : Str) (i : Nat) (ts : Addr → DExc → DTS) (Eo : DXS) (D : DEnds) : DXS := fun y σ h => ∃ b, kt y.cls n = some b ∧
  (b = true → ∀ a, h a = none → ts a y (clrN i D) (σ.set i (some (.own a))) h) ∧ (b = false → Eo y σ h)
def dTryAs (kt : Str → Str → Option Bool) (n : Str) (i : Nat) (tb : DXS → DTS) (ts : Addr → DExc → DTS) (Eo : DXS) : DTS := fun D σ h =>
  ∃ (E0 : DXS) (D0 : DEnds), (∀ y σ' h', E0 y σ' h' → dWas kt n i ts Eo D y σ' h') ∧ DEnds.Le D0 D ∧ tb E0 D0 σ h
theorem tryAs_mk {kt : Str → Str → Option Bool} {n : Str} {i : Nat} {tb : DXS → DTS} {ts : Addr → DExc → DTS} {Eo : DXS} {D : DEnds} {σ : DSt} {h : MH} (w : tb (dWas kt n i ts Eo D) D σ h) : dTryAs kt n i tb ts Eo D σ h := ⟨_, _, fun _ _ _ z => z, le_refl, w⟩
theorem le_trans {A B C : DEnds} (p : DEnds.Le A B) (q : DEnds.Le B C) : DEnds.Le A C := ⟨fun _ _ z => q.nx _ _ (p.nx _ _ z), fun _ _ z => q.rt _ _ (p.rt _ _ z), fun _ _ z => q.bk _ _ (p.bk _ _ z), fun _ _ z => q.ct _ _ (p.ct _ _ z)⟩
section
variable {X : Cx} {x n : Str} {cv : Value} {i : Nat} {body suite : List Stmt} {b₀ : Stmt} {np pos pos' : Pos} {kt : Str → Str → Option Bool} {tb : DXS → DTS} {ts : Addr → DExc → DTS} {Eo : DXS}
theorem ds_tryAs (i : Nat) (hs : X.stack = X.env :: X.outer) (hf : X.env.frame = some X.env.locals) (hN : X.N.Nodup) (hc : Names X x cv) (hkt : ∀ c b, kt c x = some b → PySem.W.exmOne X.K (.ref (He.ga X.K c)) cv = some b) (tk : Takes X (liftX X.K Γ Eo))
    (hb : ∀ (Γ1 : GI), Γ1.T = Γ.T → ∀ (Ed : DXS) (pn : List (Addr × Obj)) (xe : Value → Shared → Prop), Takes (X.tr pn xe) (liftX X.K Γ1 Ed) → PassesOwn (model X.prog X.w) X.A X.env xe → DSs (X.tr pn xe) Γ1 body (tb Ed))
    (hsu : ∀ (Γ1 : GI), Γ1.T = Γ.T → ∀ (a : Addr) (oe : Obj) (y : DExc) (d : Option Addr) (pn : List (Addr × Obj)), Zc (.ref (He.ga X.K y.cls)) d oe → (∃ vs, oe.data = .fields vs) → DSs (X.suite a ((a, oe) :: pn)) (Γ1.exc X.K y (.ref (He.ga X.K y.cls)) d) (b₀ :: suite) (ts a y))
    (hi : X.N[i]? = some n := by rfl) (hln : X.env.kindOf n = some .local := by rfl) :
    DS X Γ (.Try body [.ExceptHandler (some (.Name x np)) (some n) (b₀ :: suite) pos'] [] [] pos) (dTryAs kt x i tb ts Eo) := by
  have ms : ∀ a y, MonoS (ts a y) := fun a y => (hsu Γ rfl a { cls := .ref (He.ga X.K y.cls), dict := none, data := .fields #[] } y none [] ⟨rfl, rfl⟩ ⟨_, rfl⟩).mono
  have clrLe : ∀ {D D' : DEnds}, DEnds.Le D D' → DEnds.Le (clrN i D) (clrN i D') := fun l => ⟨fun _ _ z => l.nx _ _ z, l.rt, fun _ _ z => l.bk _ _ z, fun _ _ z => l.ct _ _ z⟩
  refine ⟨?_, ?_⟩
  · rintro D D' σ h l ⟨E0, D0, hE, hD, w⟩
    refine ⟨E0, D0, fun y σ' h' z => ?_, le_trans hD l, w⟩
    obtain ⟨b, e, p, q⟩ := hE y σ' h' z
    exact ⟨b, e, fun eb a na => ms _ _ _ _ _ _ (clrLe l) (p eb a na), q⟩
  · let tsR : Addr → Value → Option Addr → TS := fun a cls d D σ H => ∃ (Γ1 : GI) (y : DExc), Γ1.T = Γ.T ∧ cls = .ref (He.ga X.K y.cls) ∧ liftS X.K (Γ1.exc X.K y cls d) (ts a y) D σ H
    let tbR : WX → TS := fun W D σ H => ∃ (Γ1 : GI) (Ed : DXS) (D0 : DEnds) (σd : DSt) (h : MH), Γ1.T = Γ.T ∧ (∀ cls d σ' H', liftX X.K Γ1 Ed cls d σ' H' → W cls d σ' H') ∧ RSt X.K Γ1 H h σd σ ∧ RM X.K Γ1 H h ∧ DEnds.Le D0 (liftE X.K Γ1 H h D) ∧ tb Ed D0 σd h
    refine ps_imp (ps_try_as (c := cv) (i := i) (tb := tbR) (ts := tsR) (Wout := liftX X.K Γ Eo) hs hf hN hi hln hc tk (fun W pn xe tk' ps => ?_) fun a oe cls d pn hz hfl => ?_) fun D σ H ⟨σd, h, rs, rm, E0, D0, hE, hD, w⟩ => ?_
    · exact ⟨fun pins s σ H D I ⟨Γ1, Ed, D0, σd, h, hT, le, rs, rm, l, w⟩ => by
        have der := hb Γ1 hT Ed pn xe (tk'.imp le) ps
        exact der.ps.run pins s σ H D I ⟨σd, h, rs, rm, der.mono _ _ _ _ l w⟩⟩
    · exact ⟨fun pins s σ H D I ⟨Γ1, y, hT, ec, w⟩ => by
        subst ec
        exact (hsu Γ1 hT a oe y d pn hz hfl).ps.run pins s σ H D I w⟩
    · refine ⟨Γ.at H h, E0, D0, σd, h, rfl, fun cls d σ' H' ⟨y, σd', h', rs', rm', rx, e⟩ => ?_, rs, rm.at, ?_, w⟩
      · obtain ⟨b, hb1, hyes, hno⟩ := hE _ _ _ e
        refine ⟨b, by rw [rx.1]; exact hkt _ _ hb1, fun q a na => ?_, fun q => ⟨y, σd', h', rs', rm'.un, rx, hno q⟩⟩
        refine ⟨Γ.at H h, y, rfl, rx.1, σd'.set i (some (.own a)), h', ?_, ⟨rm'.ob, ⟨rm'.g, rx⟩, rm'.nx, rm'.tb⟩, ms _ _ _ _ _ _ ?_ (hyes q a (rm'.tracked na))⟩
        · exact RSt.set (Γ := Γ) (x := .own a) (v := .ref a) rs' rfl
        · exact ⟨fun σd2 h2 z σ2 H2 px rs2 rm2 => z _ H2 rm2.g.1.2 (RSt.clr (Γ := Γ) rs2 none) rm2.unE.un, fun v2 h2 z v H2 px rv2 rm2 => z v H2 rm2.g.1.2 rv2 rm2.unE.un,
            fun σd2 h2 z σ2 H2 px rs2 rm2 => z _ H2 rm2.g.1.2 (RSt.clr (Γ := Γ) rs2 none) rm2.unE.un, fun σd2 h2 z σ2 H2 px rs2 rm2 => z _ H2 rm2.g.1.2 (RSt.clr (Γ := Γ) rs2 none) rm2.unE.un⟩
      · exact le_trans hD ⟨fun σd2 h2 z σ2 H2 px rs2 rm2 => z σ2 H2 px rs2 rm2.un, fun v2 h2 z v H2 px rv2 rm2 => z v H2 px rv2 rm2.un, fun σd2 h2 z σ2 H2 px rs2 rm2 => z σ2 H2 px rs2 rm2.un, fun σd2 h2 z σ2 H2 px rs2 rm2 => z σ2 H2 px rs2 rm2.un⟩
end

theorem inst_of {X : Cx} {a D : Addr} {oe : Obj} {d : Option Addr} {pn pins : List (Addr × Obj)} {σ : L2.St} {H : Hp} {s : Shared} (I : Inv (X.suite a ((a, oe) :: pn)) pins σ H s) (hz : Zc (.ref D) d oe) (hf : ∃ vs, oe.data = .fields vs) (hd : d = none ∨ ∃ dd fs, d = some dd ∧ H dd = some (.xd fs)) :
    ∃ od, PySem.W.InstAt s.heap a oe D od := by
  obtain ⟨ha, _⟩ := I.pin (a, oe) (List.mem_append_left _ List.mem_cons_self)
  obtain ⟨vs, hv⟩ := hf
  rcases hd with e | ⟨dd, fs, e, ea⟩
  · subst e
    exact ⟨none, ha, hz.1, by unfold PySem.W.notCls; rw [hv] <;> rfl, by rw [hz.2]; trivial⟩
  · subst e
    obtain ⟨mA, hns, hr⟩ := (show ObjOk X.prog X.w H s.heap dd (.xd fs) from I.hok dd _ ea)
    obtain ⟨od, ho, hl⟩ := lookIn_ns hns
    exact ⟨some od, ha, hz.1, by unfold PySem.W.notCls; rw [hv] <;> rfl, by rw [hz.2]; exact ho⟩
theorem kit_exc {K : PySem.W.Frag} {x D : Addr} {ox : Obj} {od : Option Obj} (C : ExcC K D) : PySem.W.KitX K (.ref x) (.ref D) (fun h => PySem.W.InstAt h x ox D od) :=
  PySem.W.kitx_exc (by obtain ⟨cd, hc, _⟩ := PySem.W.any_some C.hd; rw [hc]; rfl) C.hg C.hk C.hs C.ha C.hn C.ht C.hm
def heldD (H : Hp) (d : Option Addr) : Prop := d = none ∨ ∃ dd fs, d = some dd ∧ H dd = some (.xd fs)
def rIsX (K : PySem.W.Frag) (D a : Addr) (d : Option Addr) : List V → Hp → VK → Prop := fun xs H Q => ∃ (c : V) (cv : Value) (b : Bool), xs = [.ref a, c] ∧ ClsV c cv ∧ ExcC K D ∧ PySem.W.kitOne K (.ref D) cv = some b ∧ heldD H d ∧ Q (.bl b) H
theorem call_isX {X : Cx} {a D : Addr} {oe : Obj} {d : Option Addr} {pn : List (Addr × Obj)} (hz : Zc (.ref D) d oe) (hf : ∃ vs, oe.data = .fields vs) : CallR (X.suite a ((a, oe) :: pn)) (.builtin "isinstance") (rIsX X.K D a d) := by
  intro pins s σ H xs us Q I r h
  obtain ⟨c, cv, b, rfl, hcv, C, e, hd, q⟩ := h
  obtain ⟨u1, u2, rfl, r1, r2⟩ := vals2 r
  cases (show u1 = Value.ref a from r1)
  have ec := hcv.eq r2
  subst ec
  obtain ⟨od, J⟩ := inst_of I hz hf hd
  exact PySem.W.kia_one (kit_exc C) I.kIn J e (fun z => nomatch z) fun tk => ⟨.bl b, H, I.tok tk, rfl, q⟩
def rIsXT (K : PySem.W.Frag) (D a : Addr) (d : Option Addr) : List V → Hp → VK → Prop := fun xs H Q => ∃ (tp : Addr) (cs : List V) (us : List Value) (b : Bool), xs = [.ref a, .ref tp] ∧ H tp = some (.tup cs) ∧ Paired ClsV cs us ∧ ExcC K D ∧ PySem.W.kitAny K (.ref D) us = some b ∧ heldD H d ∧ Q (.bl b) H
theorem call_isXT {X : Cx} {a D : Addr} {oe : Obj} {d : Option Addr} {pn : List (Addr × Obj)} (hz : Zc (.ref D) d oe) (hf : ∃ vs, oe.data = .fields vs) : CallR (X.suite a ((a, oe) :: pn)) (.builtin "isinstance") (rIsXT X.K D a d) := by
  intro pins s σ H xs us Q I r h
  obtain ⟨tp, cs, ws, b, rfl, hT, k, C, e, hd, q⟩ := h
  obtain ⟨u1, u2, rfl, r1, r2⟩ := vals2 r
  cases (show u1 = Value.ref a from r1)
  cases (show u2 = Value.ref tp from r2)
  obtain ⟨od, J⟩ := inst_of I hz hf hd
  obtain ⟨_, its, rv, o, h1, h2, n, h3⟩ := (show ObjOk X.prog X.w H s.heap tp (.tup cs) from I.hok tp _ hT)
  have e3 := ClsV.all k rv
  subst e3
  obtain ⟨oc, od', dt, sl⟩ := o
  simp only at h2 h3
  subst h2 h3
  exact PySem.W.kia_tup (kit_exc C) I.kIn J h1 e (fun z => nomatch z) fun tk => ⟨.bl b, H, I.tok tk, rfl, q⟩
/-- names of classes -/
structure DC (X : Cx) (e : Expr) (n : Str) : Prop where
  pe : ∃ c, PE X e (tC c) ∧ ClsV c (cvK X.K n)
structure DCs (X : Cx) (es : List Expr) (ns : List Str) : Prop where
  pa : ∃ cs, PA X es (fun _ H Q => Q cs H) ∧ Paired ClsV cs (ns.map (cvK X.K))
section
variable {X : Cx} {n x : Str} {pos p : Pos} {e : Expr} {es : List Expr} {ns : List Str}
theorem dc_own (hg : Gl X n) (hm : X.mg n = some (.ref (He.ga X.K n))) (hd : (n == ("__debug__" : Str)) = false := by decide) (hb : btV n = none := by decide +kernel) : DC X (.Name n pos) n := ⟨.ref (He.ga X.K n), pe_glob hg hm rfl hd, by
  unfold cvK
  rw [hb]
  exact .own _⟩
theorem dc_bt {t : String} (hg : Gl X n) (hm : X.mg n = none) (hv : bootBuiltins n = some (.type t)) (hb : btV n = some (.type t)) (hn : n ≠ "__name__" := by decide) (hd : (n == ("__debug__" : Str)) = false := by decide) : DC X (.Name n pos) n := ⟨.ty t, pe_bltn hg hm hv rfl hn hd, by
  unfold cvK
  rw [hb]
  exact .ty t⟩
theorem dcs_nil : DCs X [] [] := ⟨[], pa_imp (t := tNil) pa_nil fun _ _ _ w => w, .nil⟩
theorem dcs_cons (h1 : DC X e n) (h2 : DCs X es ns) (hs : starEach (e :: es) X.env = (false, eval e X.env) :: starEach es X.env := by rfl) : DCs X (e :: es) (n :: ns) := by
  obtain ⟨c, p1, k1⟩ := h1.pe
  obtain ⟨cs, p2, k2⟩ := h2.pa
  exact ⟨c :: cs, pa_imp (pa_cons p1 p2 hs) fun _ _ _ w => w, .cons k1 k2⟩
end
theorem held_of {K : PySem.W.Frag} {H : Hp} {h : MH} {y : DExc} {cls : Value} {d : Option Addr} {xs : List Addr} {T : List (Addr × Str)} (r : RX K (G0 xs T) H h y cls d) : heldD H d := by
  rcases r.2 with ⟨e, _⟩ | ⟨dd, vs, e, f, _⟩
  · exact .inl e
  · exact .inr ⟨dd, vs, e, (Fz.to f).1⟩
def dIsX (kt : Str → Str → Option Bool) (i : Nat) (a : Addr) (y : DExc) (n : Str) : DTE := fun σ h Q => slot σ i = some (.own a) ∧ match kt y.cls n with
  | some b => Q (.d (.bool b)) h
  | none => False
def dIsXT (kt : Str → Str → Option Bool) (i : Nat) (a : Addr) (y : DExc) (n : Str) (ns : List Str) : DTE := fun σ h Q => slot σ i = some (.own a) ∧ (kt y.cls n).isSome = true ∧ (ns.length + 1 ≤ sizeLine) ∧ match anyK kt y.cls (n :: ns) with
  | some b => Q (.d (.bool b)) h
  | none => False
def dXf (xt : Str → Str → Bool) (i : Nat) (a : Addr) (y : DExc) (f : Str) : DTE := fun σ h Q => slot σ i = some (.own a) ∧ xt y.cls f = true ∧ match y.fs.lookup f with
  | some d => Q (.d d) h
  | none => False
theorem own_at {K : PySem.W.Frag} {H : Hp} {h : MH} {σd : DSt} {σ : L2.St} {i : Nat} {a : Addr} (rs : RSt K Γ H h σd σ) (e : slot σd i = some (.own a)) : σ[i]? = some (some (.ref a)) := by
  obtain ⟨v, e1, e2⟩ := rs.2 i _ (slot_get e)
  cases (show v = V.ref a from e2)
  exact e1
section
variable {X : Cx} {Γ1 : GI} {kt : Str → Str → Option Bool} {xt : Str → Str → Bool} {a : Addr} {oe : Obj} {y : DExc} {d : Option Addr} {pn : List (Addr × Obj)} {x n f : Str} {pos p p1 p2 : Pos} {c e : Expr} {es : List Expr} {ns : List Str}
theorem de_isX (i : Nat) (T : KitE X.K kt xt) (hz : Zc (.ref (He.ga X.K y.cls)) d oe) (hf : ∃ vs, oe.data = .fields vs) (hg : Gl (X.suite a ((a, oe) :: pn)) "isinstance") (hm : X.mg "isinstance" = none) (hc : DC (X.suite a ((a, oe) :: pn)) c n)
    (hN : X.N[i]? = some x := by rfl) (hv : Vis X.env.scope x := by first | exact Or.inl rfl | exact Or.inr (Or.inl rfl) | exact Or.inr (Or.inr rfl)) (hd : (x == ("__debug__" : Str)) = false := by decide) (hcd : (x == ("__classdict__" : Str)) = false := by decide)
    (he : starEach [.Name x p1, c] X.env = (false, eval (.Name x p1) X.env) :: starEach [c] X.env := by rfl) (he2 : starEach [c] X.env = (false, eval c X.env) :: starEach [] X.env := by rfl) (hpl : (backTo pos (starEach [c] X.env)).any (·.1) = false := by rfl) :
    DE (X.suite a ((a, oe) :: pn)) (Γ1.exc X.K y (.ref (He.ga X.K y.cls)) d) (.Call (.Name "isinstance" p) [.Name x p1, c] [] pos) (dIsX kt i a y n) := by
  obtain ⟨v, pc, k⟩ := hc.pe
  refine ⟨fun σ h Q Q' kq w => ⟨w.1, ?_⟩, pe_imp (pe_callB (call_isX hz hf) hg hm rfl (pa_cons (pe_var (X := X.suite a ((a, oe) :: pn)) hN hv hd hcd) (pa_cons pc pa_nil he2) he) (by decide) (by decide) he hpl) fun σ H Q ⟨σd, h, rs, rm, w0, w⟩ => ?_⟩
  · have w2 := w.2
    split at w2
    · exact kq _ _ w2
    · exact w2
  · split at w
    · rename_i b e
      exact ⟨.ref a, own_at rs w0, v, _, b, rfl, k, T.exc _ _ _ e, T.kit _ _ _ e, held_of rm.g.2, w _ _ PX.refl (Dp.bl b) rm⟩
    · exact w.elim
theorem de_isXT {kk} (i : Nat) (T : KitE X.K kt xt) (hz : Zc (.ref (He.ga X.K y.cls)) d oe) (hf : ∃ vs, oe.data = .fields vs) (hg : Gl (X.suite a ((a, oe) :: pn)) "isinstance") (hm : X.mg "isinstance" = none) (hc : DCs (X.suite a ((a, oe) :: pn)) es (n :: ns))
    (hN : X.N[i]? = some x := by rfl) (hv : Vis X.env.scope x := by first | exact Or.inl rfl | exact Or.inr (Or.inl rfl) | exact Or.inr (Or.inr rfl)) (hd : (x == ("__debug__" : Str)) = false := by decide) (hcd : (x == ("__classdict__" : Str)) = false := by decide)
    (he : starEach [.Name x p1, .Tuple es kk p2] X.env = (false, eval (.Name x p1) X.env) :: starEach [.Tuple es kk p2] X.env := by rfl) (he2 : starEach [.Tuple es kk p2] X.env = (false, eval (.Tuple es kk p2) X.env) :: starEach [] X.env := by rfl) (hpl : (backTo pos (starEach [.Tuple es kk p2] X.env)).any (·.1) = false := by rfl) :
    DE (X.suite a ((a, oe) :: pn)) (Γ1.exc X.K y (.ref (He.ga X.K y.cls)) d) (.Call (.Name "isinstance" p) [.Name x p1, .Tuple es kk p2] [] pos) (dIsXT kt i a y n ns) := by
  obtain ⟨vs, pc, k⟩ := hc.pa
  refine ⟨fun σ h Q Q' kq w => ⟨w.1, w.2.1, w.2.2.1, ?_⟩, pe_imp (pe_callB (call_isXT hz hf) hg hm rfl (pa_cons (pe_var (X := X.suite a ((a, oe) :: pn)) hN hv hd hcd) (pa_cons (pe_tup pc) pa_nil he2) he) (by decide) (by decide) he hpl) fun σ H Q ⟨σd, h, rs, rm, w0, w1, w3, w⟩ => ?_⟩
  · have w2 := w.2.2.2
    split at w2
    · exact kq _ _ w2
    · exact w2
  · split at w
    · rename_i b e
      obtain ⟨b1, e1⟩ := Option.isSome_iff_exists.mp w1
      have hl : vs.length = ns.length + 1 := by
        have z := k.length
        rw [List.length_map] at z
        exact z
      refine ⟨.ref a, own_at rs w0, by rw [hl]; exact w3, fun q hq => ?_⟩
      refine ⟨q, vs, _, b, rfl, upd_same, k, T.exc _ _ _ e1, T.any e, ?_, w _ _ (rm.px hq) (Dp.bl b) (RM.new hq rm)⟩
      rcases held_of rm.g.2 with z | ⟨dd, fs, z1, z2⟩
      · exact .inl z
      · exact .inr ⟨dd, fs, z1, by rw [upd_ne fun z => by rw [z, hq] at z2; cases z2]; exact z2⟩
    · exact w.elim
theorem paired_look {K : PySem.W.Frag} {F : Hp} {f : Str} {dv : PyData} : ∀ {fs : List (Str × PyData)} {vs : List (Str × V)}, Paired (fun (p : Str × PyData) (q : Str × V) => p.1 = q.1 ∧ Dp K F q.2 p.2) fs vs → fs.lookup f = some dv → ∃ v, vs.lookup f = some v ∧ Dp K F v dv
  | _, _, .nil, h => by cases h
  | (a, b) :: _, (c, e) :: _, .cons z t, h => by
    obtain ⟨z1, z2⟩ := z
    dsimp only at z1 z2
    subst z1
    by_cases q : (f == a) = true
    · simp only [List.lookup, q] at h ⊢
      cases h
      exact ⟨_, rfl, z2⟩
    · have q' : (f == a) = false := by simpa using q
      simp only [List.lookup, q'] at h ⊢
      exact paired_look t h
theorem de_xf (i : Nat) (T : KitE X.K kt xt) (hz : Zc (.ref (He.ga X.K y.cls)) d oe) (hf : ∃ vs, oe.data = .fields vs) (hN : X.N[i]? = some x := by rfl) (hv : Vis X.env.scope x := by first | exact Or.inl rfl | exact Or.inr (Or.inl rfl) | exact Or.inr (Or.inr rfl)) (hd : (x == ("__debug__" : Str)) = false := by decide) (hcd : (x == ("__classdict__" : Str)) = false := by decide)
    (hb : attributeBase (.Name x p1) f X.env (eval (.Name x p1) X.env) = eval (.Name x p1) X.env := by rfl) :
    DE (X.suite a ((a, oe) :: pn)) (Γ1.exc X.K y (.ref (He.ga X.K y.cls)) d) (.Attribute (.Name x p1) f pos) (dXf xt i a y f) := by
  refine ⟨fun σ h Q Q' kq w => ⟨w.1, w.2.1, ?_⟩, ?_⟩
  · have w2 := w.2.2
    split at w2
    · exact kq _ _ w2
    · exact w2
  · by_cases hx : xt y.cls f = true
    · obtain ⟨T1, T2⟩ := T.xf _ _ hx
      refine pe_imp (pe_xf T1 T2 hz hf (pe_var (X := X.suite a ((a, oe) :: pn)) hN hv hd hcd) hb) fun σ H Q ⟨σd, h, rs, rm, w0, _, w⟩ => ?_
      split at w
      · rename_i dv e
        refine ⟨.ref a, own_at rs w0, rfl, rfl, ?_⟩
        rcases rm.g.2.2 with ⟨_, z⟩ | ⟨dd, vs, z1, z2, z3⟩
        · rw [z] at e; cases e
        · obtain ⟨v, e1, e2⟩ := paired_look z3 e
          exact ⟨dd, vs, v, z1, (Fz.to z2).1, e1, w v H PX.refl e2 rm⟩
      · exact w.elim
    · exact ⟨fun pins s σ H Q I ⟨σd, h, rs, rm, w0, w1, w⟩ => absurd w1 hx⟩
end
end DL

namespace DL
open PySem PySem.Spec PyProof.Rows L2
set_option autoImplicit true

theorem clsB_ok {K : PySem.W.Frag} {C : Addr} {bmB : List Value} {newId : String} (q : clsB K C bmB newId = true) : ∃ nm q N bs bm sn sub ab col dd k0 k1 k2 k3 k5, K.lookup C = some (PySem.excClassObj nm q C N bs bm true sn sub ab col dd k0 k1 k2 k3 k5 newId) ∧ PySem.W.excTail bmB bm = true := by
  unfold clsB at q
  split at q
  · rename_i dd cd sl ho
    split at q
    · rename_i C' bm k0 k1 k2 k3 n k5 hm hs
      simp only [Bool.and_eq_true, beq_iff_eq, Bool.not_eq_true'] at q
      obtain ⟨rfl, rfl, hdel, hd0, ht⟩ := q
      obtain ⟨nm, bs, mro, ns, qn, hd, sn, sub, ab, col, del⟩ := cd
      dsimp only at hm hdel hd0
      subst hm hdel hd0
      have hsl : sl = #[k0, k1, k2, k3, some (.builtin n), k5] := by
        obtain ⟨l⟩ := sl
        simp only at hs
        rw [hs]
      subst hsl
      exact ⟨nm, qn, ns, bs, bm, sn, sub, ab, col, dd, k0, k1, k2, k3, k5, ho, ht⟩
    · cases q
  · cases q
theorem fcB_ok {K : PySem.W.Frag} {Cb : Addr} {initId : String} (q : fcB K Cb initId = true) : PySem.W.findCls K (.ref Cb) (.type "type") "__init__" = some (.val (.builtin initId)) := by
  unfold fcB at q
  split at q
  · rename_i i e
    rw [e, beq_iff_eq.mp q]
  · cases q
theorem errB_ok {K : PySem.W.Frag} {mg : Str → Option Value} {x base : Str} {fs : List Str} {B newId initId : String} {bmB : List Value} (FB : PySem.ExcBaseFacts B newId initId bmB) (SF : PySem.StoreFacts B bmB "object.__setattr__" "object") (hI : PySem.W.handedIn (.builtin initId) = true)
    (gC : mg x = some (.ref (He.ga K x))) (gB : mg base = some (.ref (He.ga K base))) (h : errB K x base fs bmB newId initId = true) : ErrC K mg x base (He.ga K x) (He.ga K base) (He.ma K (He.ga K x) "__init__") fs B newId initId bmB := by
  unfold errB at h
  simp only [Bool.and_eq_true, decide_eq_true_eq, List.all_eq_true] at h
  obtain ⟨h1, h2, h3, h4, h5, h6, h7, h8, h9, h10, h11, h12, h13, h14, h15⟩ := h
  exact ⟨gC, gB, clsB_ok h1, FB, SF, h2, h3, h4, h5, fun f hf => (h6 f hf).1, fun f hf => (h6 f hf).2, h7, h8, h9, h10, h11, h12, h13, h14, hI, fcB_ok h15⟩
theorem names_own {X : Cx} {x : Str} (hm : X.mg x = some (.ref (He.ga X.K x))) (hg : Gl X x := by rfl) (hd : (x == ("__debug__" : Str)) = false := by decide) (hb : btV x = none := by decide +kernel) : Names X x (cvK X.K x) := ⟨hg, hd, .inl (by
  unfold cvK
  rw [hb]
  exact hm)⟩
theorem excB_ok {K : PySem.W.Frag} {D : Addr} (h : excB K D = true) : ExcC K D := by
  unfold excB at h
  simp only [Bool.and_eq_true, decide_eq_true_eq] at h
  obtain ⟨h1, h2, h3, h4, h5, h6, h7, h8⟩ := h
  exact ⟨h1, h2, h3, h4, h5, h6, h7, h8⟩
theorem kitLB_ok {K : PySem.W.Frag} {kl : List (Str × Str × Bool)} {xl : List (Str × Str)} (h : kitLB K kl xl = true) : KitE K (ktL kl) (xtL xl) := by
  unfold kitLB at h
  obtain ⟨h1, h2⟩ := Bool.and_eq_true_iff.mp h
  have g1 : ∀ c n b, ktL kl c n = some b → ExcC K (He.ga K c) ∧ PySem.W.exmOne K (.ref (He.ga K c)) (cvK K n) = some b ∧ PySem.W.kitOne K (.ref (He.ga K c)) (cvK K n) = some b := fun c n b e => by
    unfold ktL at e
    obtain ⟨p, e1, e2⟩ := Option.map_eq_some_iff.mp e
    have m := List.mem_of_find?_eq_some e1
    have q := List.find?_some e1
    simp only [Bool.and_eq_true, beq_iff_eq] at q
    obtain ⟨rfl, rfl⟩ := q
    subst e2
    have z := List.all_eq_true.mp h1 p m
    simp only [Bool.and_eq_true, decide_eq_true_eq] at z
    exact ⟨excB_ok z.1, z.2.1, z.2.2⟩
  refine ⟨fun c n b e => (g1 c n b e).1, fun c n b e => (g1 c n b e).2.1, fun c n b e => (g1 c n b e).2.2, fun c f e => ?_⟩
  obtain ⟨p, m, q⟩ := List.any_eq_true.mp e
  simp only [Bool.and_eq_true, beq_iff_eq] at q
  obtain ⟨rfl, rfl⟩ := q
  have z := List.all_eq_true.mp h2 p m
  simp only [Bool.and_eq_true, decide_eq_true_eq] at z
  exact ⟨xfB_ok z.1, z.2⟩
/-- THE LAW'S WALK, by hookY -/
theorem walk_gY {l : PySem.W.OpenLaw} {n m k : Nat} {q : Program} {loose : List Str} {XP : (Str → Option Value) → Heap → Prop} {d : DefRec} {x : Str} {fas : List He.Fa} {fns : List He.DefD} {ts : List He.Tab} {tf : List He.Defn} {nm : He.Defn → Str} {ex : PySem.W.Frag → Bool} {W : DSp}
    (hn : l.most = some n) (hn2 : n ≤ sizeLine) (hdf : d.params.defaults = []) (hr : Room k callerA)
    (F : ∀ (w : World) (mg : Str → Option Value) (fa : Addr) (h : Heap) (K : PySem.W.Frag), K.In h → h.Ns mainGlobals mg → mg d.name = some (.ref fa) → He.SaysX fas fns ts tf ex w h K →
      ∃ fd : FuncData, (∀ (s : Shared) (u : Value), BindsTo s fd ⟨[u], []⟩ [(x, u)]) ∧ ∀ base : Heap, K.In base → base.Ns mainGlobals mg → (∀ c ∈ tf.map (He.cT K), LamX.TabB base mg c.1 c.2) → FnG l.prog w K mg base (tabsT K tf nm) k fa fd [x] W)
    (hw : ∀ ns : List Int, ns.length ≤ n → (∀ z ∈ ns, Builtin.Int.intBits z ≤ 1048576) → W [.d (.list (ns.map PyData.int))] (fun _ => none) (fun r _ => r = .d (.bool true)) fun _ _ => False) :
    PySem.W.WalkO q loose XP (hookY m fas fns ts tf ex).says l.row.toRowW d [] (fun f vs => PySem.call f vs) := walk_g (m := m) (nm := nm) hn hn2 hdf hr F hw
end DL

namespace DL
open PySem PySem.Spec PyProof.Rows L2
set_option autoImplicit true

def flatD : PyData → Bool
  | .none => true
  | .bool _ => true
  | .int _ => true
  | .str _ => true
  | _ => false
theorem flat_ok {K : PySem.W.Frag} {F : Hp} {v : V} {d : PyData} (r : Dp K F v d) (f : flatD d = true) : flatV v = true := by
  cases d <;> first | (cases f; done) | (cases r; rfl)
theorem flat_eq {K : PySem.W.Frag} {F : Hp} {v u : V} {d e : PyData} (r1 : Dp K F v d) (r2 : Dp K F u e) (f1 : flatD d = true) (f2 : flatD e = true) : eqV v u = PyData.eqv d e := by
  cases d <;> cases e <;> first | (cases f1; done) | (cases f2; done) | (cases r1; cases r2; simp [eqV, PyData.eqv])
theorem flats_ok {K : PySem.W.Frag} {F : Hp} {x : V} {d : PyData} (rx : Dp K F x d) (fx : flatD d = true) : ∀ {vs : List V} {ds : List PyData}, DpAll K F vs ds → ds.all flatD = true → vs.all flatV = true ∧ inV x vs = ds.any fun z => PyData.eqv z d
  | _, _, .nil, _ => ⟨rfl, rfl⟩
  | _, _, .cons r t, f => by
    rw [List.all_cons, Bool.and_eq_true] at f
    obtain ⟨h1, h2⟩ := flats_ok rx fx t f.2
    refine ⟨by rw [List.all_cons, flat_ok r f.1, h1]; rfl, ?_⟩
    unfold inV at h2 ⊢
    rw [List.any_cons, List.any_cons, h2, flat_eq r rx f.1 fx]
def rdInF : DR2 := fun x y h Q => match asD h x, asQ h y with
  | some d, some ds => flatD d = true ∧ ds.all flatD = true ∧ Q (.d (.bool (ds.any fun z => PyData.eqv z d))) h
  | _, _ => False
theorem lr_inF {K : PySem.W.Frag} : LR2 K Γ rdInF (rIn K false) := by
  refine ⟨fun x y h Q Q' k w => ?_, fun x y v u H h C' Q rv ru rm w k => ?_⟩
  · unfold rdInF at w ⊢
    split at w
    · exact ⟨w.1, w.2.1, k _ _ w.2.2⟩
    · exact w
  · unfold rdInF at w
    split at w
    · rename_i d ds e1 e2
      have dv := asD_ok rv rm e1
      obtain ⟨a, vs, rfl, hq, dds⟩ := asQ_ok ru rm e2
      have dv' : DpAll K H vs ds := dps_up fz_sub _ _ dds
      obtain ⟨h1, h2⟩ := flats_ok dv w.1 dv' w.2.1
      refine ⟨a, vs, rfl, hq, flat_ok dv w.1, h1, ?_⟩
      rw [if_neg (by decide), h2]
      exact k _ _ _ H PX.refl rv_bl rm w.2.2
    · exact w.elim
end DL

namespace DL
open PySem PySem.Spec PyProof.Rows L2
set_option autoImplicit true

/-- which of the left out ones (false), of the keywords' (true) -/
def pick {α : Type} : List (Bool × Nat) → List α → List α → List α
  | [], _, _ => []
  | (b, i) :: r, ms, ws => match (if b = true then ws else ms)[i]? with
    | some x => x :: pick r ms ws
    | none => pick r ms ws
/-- a default that is no object -/
def cvV : PyData → V
  | .bool b => .bl b
  | .int i => .int i
  | _ => .non
/-- a def's calling shape: n values by their places, keywords ks, the others by their defaults dm -/
structure Shape where
  n : Nat
  ks : List Str
  dm : List PyData
  cs : List (Bool × Nat)
def FnK (P : Program) (w : World) (K : PySem.W.Frag) (mg : Str → Option Value) (base : Heap) (T : List (Addr × Str)) (k : Nat) (x : Str) (ps : List Str) (z : Shape) (W : DSp) : Prop :=
  ∃ f fd mv, FnG P w K mg base T k f fd ps W ∧ PySem.W.keepIn K (.ref f) = true ∧ KBn K fd ps z.n z.ks (fun us ws => us ++ pick z.cs mv ws) (fun vs zs => vs ++ pick z.cs (z.dm.map cvV) zs) ∧ mg x = some (.ref f)
theorem FnK.up {P : Program} {w : World} {K : PySem.W.Frag} {mg : Str → Option Value} {base : Heap} {T : List (Addr × Str)} {j k : Nat} {x : Str} {ps : List Str} {z : Shape} {W : DSp} (F : FnK P w K mg base T j x ps z W) (h : j ≤ k) : FnK P w K mg base T k x ps z W := by
  obtain ⟨f, fd, mv, a, b⟩ := F
  exact ⟨f, fd, mv, a.up h, b⟩
def dCallK (E : DXS) (W : DSp) (z : Shape) (t tk : DTA) : DTE := fun σ h Q => t σ h fun xs h1 => tk σ h1 fun zs h2 => xs.length = z.n ∧ zs.length = z.ks.length ∧ W (xs ++ pick z.cs (z.dm.map SV.d) zs) h2 Q fun x h3 => E x σ h3
section
variable {X : Cx} {k : Nat} {ps : List Str} {W : DSp} {E : DXS} {x : Str} {p pos : Pos} {e : Expr} {es : List Expr} {kws : List Keyword} {t tk : DTA} {T : List (Addr × Str)} {z : Shape}
end
end DL

namespace DL
open PySem PySem.Spec PyProof.Rows L2
open RZ (ItzT pi_zipA)
set_option autoImplicit true

def tyN : PyData → String
  | .none => "NoneType"
  | .bool _ => "bool"
  | .int _ => "int"
  | .str _ => "str"
  | .list _ => "list"
  | .tuple _ => "tuple"
  | .dict _ => "dict"
theorem tyx_of {K : PySem.W.Frag} {H : Hp} {v : V} {d : PyData} (r : Dp K H v d) : TyX K H v (.type (tyN d)) := by
  cases r with
  | non => exact .base .non
  | bl b => exact .base (.bl b)
  | int i => exact .base (.int i)
  | str x => exact .base (.str x)
  | lst h _ =>
    rcases h with (e | ⟨o, e⟩) | ⟨o, its, n, e, c, _⟩
    · exact .base (.lst e)
    · exact .base (.frz e)
    · exact .kList e c
  | tup h _ =>
    rcases h with (e | ⟨o, e⟩) | ⟨o, its, n, e, c, _⟩
    · exact .base (.tup e)
    · exact .fTuple e
    · exact .kTuple e c
def dIsT (te : DTE) (n : String) : DTE := fun σ h Q => te σ h fun x h1 => match asD h1 x with
  | some d => (match kitB (tyN d) n with
    | some b => Q (.d (.bool b)) h1
    | none => False)
  | none => False
section
variable {X : Cx} {e : Expr} {x : Str} {n : String} {p p2 pos : Pos} {te : DTE}
theorem de_isT (he : DE X Γ e te) (hg : Gl X "isinstance") (hm : X.mg "isinstance" = none) (hg2 : Gl X x) (hm2 : X.mg x = none) (hv2 : bootBuiltins x = some (.type n)) (hn : x ≠ "__name__" := by decide) (hd : (x == ("__debug__" : Str)) = false := by decide)
    (he1 : starEach [e, .Name x p2] X.env = (false, eval e X.env) :: starEach [.Name x p2] X.env := by rfl) (he2 : starEach [.Name x p2] X.env = (false, eval (.Name x p2) X.env) :: starEach [] X.env := by rfl) (hpl : (backTo pos (starEach [.Name x p2] X.env)).any (·.1) = false := by rfl) :
    DE X Γ (.Call (.Name "isinstance" p) [e, .Name x p2] [] pos) (dIsT te n) := by
  refine ⟨fun σ h Q Q' k w => he.mono _ _ _ _ (fun y h1 w1 => ?_) w, pe_imp (pe_callB call_isi hg hm rfl (pa_cons he.pe (pa_cons (pe_bltn hg2 hm2 hv2 (v := .ty n) rfl hn hd) pa_nil he2) he1) (by decide) (by decide) he1 hpl) fun σ H Q ⟨σd, h, rs, rm, w⟩ => ?_⟩
  · split at w1
    · split at w1
      · exact k _ _ w1
      · exact w1
    · exact w1
  · refine lift_mk he.mono rs rm w fun y h1 v H1 px rs1 rv rm1 w1 => ?_
    split at w1
    · rename_i d e1
      split at w1
      · rename_i b e2
        exact ⟨v, .ty n, .type (tyN d), .type n, b, rfl, .ty n, tyx_of (asD_ok rv rm1 e1), kit_ty e2, w1 (.bl b) H1 px rv_bl rm1⟩
      · exact w1.elim
    · exact w1.elim
end

def zipD (ds es : List PyData) : List PyData := (ds.zip es).map fun p => .tuple [p.1, p.2]
theorem zipD_get {ds es : List PyData} {i : Nat} {a b : PyData} (h1 : ds[i]? = some a) (h2 : es[i]? = some b) : (zipD ds es)[i]? = some (.tuple [a, b]) := by
  unfold zipD
  have e : (ds.zip es)[i]? = some (a, b) := List.getElem?_zip_eq_some.mpr ⟨h1, h2⟩
  rw [List.getElem?_map, e]
  rfl
theorem zipD_len (ds es : List PyData) : (zipD ds es).length = min ds.length es.length := by simp [zipD]
def wZip (ta tb : DTE) : DTI := fun σ h Q => ta σ h fun x h1 => tb σ h1 fun y h2 => match fz1 x h2 with
  | some (.list ds, h3) => (match fz1 y h3 with
    | some (.list es, h4) => Q (zipD ds es) h4
    | _ => False)
  | some (.tuple ds, h3) => (match fz1 y h3 with
    | some (.tuple es, h4) => Q (zipD ds es) h4
    | _ => False)
  | _ => False
section
variable {X : Cx} {a b : Expr} {p pos tpos : Pos} {elts : List Expr} {kk : Nat} {ta tb : DTE}
end

def dExt (to : DTE) (tF : DTF) : DTE := fun σ h Q => to σ h fun x h1 => match asL h1 x with
  | some _ => tF σ h1 fun ds h2 => (match ownL h2 x with
    | some (a, xs) => xs.length + ds.length ≤ sizeLine ∧ Q (.d .none) (mput h2 a (.lst (xs ++ ds)))
    | none => False)
  | none => False
section
variable {X : Cx} {e o : Expr} {apos cpos : Pos} {to : DTE} {tF : DTF}
end

theorem enum_new1 {v : Value} {o : Obj} {HH : Heap → Prop} (B : Begins v o HH) :
    Meets (Builtin.«enumerate.__new__» ⟨[.type "enumerate", v], []⟩) (fun _ R s => HH s.heap ∧ R (.ok (.ret (.ref (s.heap.push o).objs.size)))
      { s with heap := (s.heap.push o).push { cls := .type "enumerate", data := .fields #[.none, .bool false, .ref s.heap.objs.size, rawInt 0, .none, .none] } }) :=
  .of_wp fun prog w A R s h => by
    obtain ⟨hp, g, dr, tk, os⟩ := s
    obtain ⟨hb, h⟩ := h
    have hsub := sub_enumerate
    have it1 : ∀ {A1 : Around} {E1 Q1 : Value → Shared → Prop}, Q1 (.ref hp.objs.size) ⟨hp.push o, g, dr, tk, os⟩ → wpAny (model prog w) A1 (pyIter v) Q1 E1 ⟨hp, g, dr, tk, os⟩ := fun q => B.iter prog w _ _ ⟨hp, g, dr, tk, os⟩ _ hb q
    wp_walk using it1
    refine wpAny_stack_any fun st => wpAny_pure ?_
    split
    · rename_i c _ _ _ _ _
      cases (c == Value.type "enumerate") <;> (wp_walk using it1; exact ⟨_, rfl, h⟩)
    · wp_walk using it1
      exact ⟨_, rfl, h⟩
theorem call_enumB {prog : Program} {w : World} {A : Around} {E : Value → Shared → Prop} {s : Shared} {v : Value} {o : Obj} {HH : Heap → Prop} {Q : Value → Shared → Prop} (B : Begins v o HH) (hb : HH s.heap)
    (k : ∀ h', IsEnum h' (s.heap.objs.size + 1) s.heap.objs.size 0 .none → h'.get? s.heap.objs.size = some o → (∀ b u, s.heap.get? b = some u → h'.get? b = some u) → Q (.ref (s.heap.objs.size + 1)) { s with heap := h' }) :
    wpAny (model prog w) A (call (.type "enumerate") [v]) Q E s := by
  refine callType_new F.called_enumerate (by decide) (F.typeCall_enumerate_1 _) (F.newCall_enumerate_1 _) (fun obj => F.args_object_init_2 obj _) F.entry_enumerate_new (enum_new1 B) ⟨hb, ?_⟩
  have z : (s.heap.push o).objs.size = s.heap.objs.size + 1 := Heap.size_push ..
  show _ ∧ _
  rw [z]
  have en := Heap.get?_push_size (s.heap.push o) (o := { cls := .type "enumerate", data := .fields #[.none, .bool false, .ref s.heap.objs.size, rawInt 0, .none, .none] }) rfl
  rw [z] at en
  exact ⟨⟨_, en, rfl⟩, k _ en (Heap.get?_push_of_some _ (Heap.get?_push_size _ B.free)) fun b u x => Heap.get?_push_of_some _ (Heap.get?_push_of_some _ x)⟩
/-- the tuple at a, each item in a new pair -/
def IteT (K : PySem.W.Frag) (a : Addr) : It :=
  ⟨fun i H => ∃ (xs : List V) (x : V), SqT K H a xs ∧ xs[i]? = some x, fun i H v H' => ∃ T x, v = .ref T ∧ H T = none ∧ H' = upd H T (.tup [.int (i : Nat), x]) ∧ ∀ xs, SqT K H a xs → xs[i]? = some x, fun i H => ∃ xs : List V, SqT K H a xs ∧ xs.length = i⟩
theorem turn_enumT {P : Program} {w : World} {K : PySem.W.Frag} {elts : List Expr} {kk : Nat} {tpos : Pos} (a e it : Addr) :
    Turn P w K (.Tuple elts kk tpos) (IteT K a) [e, it] e (fun i h => (∃ old, IsEnum h e it ((i : Nat) : Int) old) ∧ h.IsTupleIter it a i ∧ e ≠ it) where
  mem := by simp
  obj := fun i h st b hb => by
    obtain ⟨⟨old, he⟩, ⟨o, ho, hc, hd⟩, _⟩ := st
    have e' : b = e ∨ b = it := by simpa using hb
    rcases e' with z | z
    · subst z; exact ⟨_, he, fun v q => nomatch q⟩
    · subst z; exact ⟨o, ho, fun v q => by rw [hd] at q; cases q⟩
  keep := fun i h h' st k => ⟨st.1.imp fun _ he => k e (by simp) _ he, st.2.1.at fun o q => k it (by simp) o q, st.2.2⟩
  item := by
    intro X hP hw hK hc i pins s σ H E I hf st hg
    subst hP hw hK
    obtain ⟨⟨old, he⟩, hit, hne⟩ := st
    obtain ⟨xs, x, hq, hx⟩ := hg
    obtain ⟨its, rv, p, hz⟩ := I.tuple hq
    have pt : s.heap.IsTuple a its.toArray := p
    obtain ⟨u, hu, ru⟩ := rv.get hx
    have hel : e < s.heap.objs.size := Heap.lt_size he
    have hil : it < s.heap.objs.size := by obtain ⟨_, q, _⟩ := hit; exact Heap.lt_size q
    have ai : a ≠ it := fun z => by
      obtain ⟨o1, q1, c1, _⟩ := id pt
      obtain ⟨o2, q2, c2, _⟩ := id hit
      rw [z, q2] at q1
      cases q1
      rw [c1] at c2
      revert c2
      decide
    have ea : e ≠ a := fun z => by
      obtain ⟨o1, q1, c1, _⟩ := id pt
      have q2 : s.heap.get? e = _ := he
      rw [z, q1] at q2
      cases q2
      have c2 : Value.type "enumerate" = Value.type "tuple" := c1
      revert c2
      decide
    have hlt : i < its.toArray.size := by
      have := (List.getElem?_eq_some_iff.mp hu).1
      simpa using this
    refine wpAny_pyNext_enum_itemC (Draws.tuple (A := X.A.in1) (I.ok.hd hc) it a ai its.toArray) he ⟨hit, pt⟩ hlt hne (by simp; exact ⟨hne, ea⟩) fun y h' tk hy ho st' hT hsz hk => ?_
    have ey : y = u := by
      have z : its.toArray[i]? = some u := by simpa using hu
      rw [z] at hy
      exact (Option.some.inj hy).symm
    subst ey
    refine ⟨_, rfl, wpAny_letOwnedTupleGo_enum (s := { s with heap := h', toks := tk + 1 }) ho fun h2 he2 sb => ?_⟩
    have hT2 : h2.get? s.heap.objs.size = some { cls := .type "tuple", data := .seq #[.int i tk, y] } := (sb.2 _ (Nat.ne_of_gt hel)).trans hT
    have new : ObjOk X.prog X.w (upd H s.heap.objs.size (.tup [.int (i : Nat), x])) h2 s.heap.objs.size (.tup [.int (i : Nat), x]) := ⟨by show 2 ≤ sizeLine; decide, [.int i tk, y], .cons ⟨_, rfl⟩ (.cons ru .nil), _, hT2, rfl, _, rfl⟩
    have I1 : Inv X pins σ (upd H s.heap.objs.size (.tup [.int (i : Nat), x])) { s with heap := h2, toks := tk + 1 } :=
      I.turnedNew (ch := [e, it]) (fun b ob hb q => (sb.2 b (fun z => hb (by simp [z]))).trans (hk b ob (fun z => hb (by simp [z])) (fun z => hb (by simp [z])) q)) hf (Nat.le_refl _) new
    refine ⟨.ref s.heap.objs.size, _, I1, rfl, ⟨_, x, rfl, I.hok.fresh (Nat.le_refl _), rfl, fun ys hy => by rw [I.tuple_inj hy hq]; exact hx⟩, ⟨⟨y, ?_⟩, st'.1.at fun o q => (sb.2 it (Ne.symm hne)).trans q, hne⟩, fun b hb => ?_⟩
    · rw [show ((i + 1 : Nat) : Int) = (i : Int) + 1 by omega]
      exact he2
    · have lt : b < s.heap.objs.size := by
        have e' : b = e ∨ b = it := by simpa using hb
        rcases e' with z | z
        · subst z; exact hel
        · subst z; exact hil
      rw [upd_ne (Nat.ne_of_lt lt)]
      exact (hf b hb).1
  done := by
    intro X hP hw hK hc i pins s σ H E I hf st hg
    subst hP hw hK
    obtain ⟨⟨old, he⟩, hit, hne⟩ := st
    obtain ⟨xs, hq, hx⟩ := hg
    obtain ⟨its, rv, p, hz⟩ := I.tuple hq
    have pt : s.heap.IsTuple a its.toArray := p
    have ai : a ≠ it := fun z => by
      obtain ⟨o1, q1, c1, _⟩ := id pt
      obtain ⟨o2, q2, c2, _⟩ := id hit
      rw [z, q2] at q1
      cases q1
      rw [c1] at c2
      revert c2
      decide
    obtain ⟨f0, f1, f2, f3, f4, f5⟩ := hf it (by simp)
    have hl := rv.length
    have ei : i = its.toArray.size := by simp; omega
    subst ei
    exact wpAny_pyNext_enum_endD (Draws.tuple (A := X.A.in1) (I.ok.hd hc) it a ai its.toArray) he ⟨hit, pt⟩ fun h' eb => ⟨rfl, I.turned (t' := s.toks) (fun b o hb q => eb b o hb q) f0 f1 f3 f4 f5⟩
  self := fun A i s Q E st h => wpAny_pyIter_enum (Classical.choose_spec st.1) h
def iEnumA (K : PySem.W.Frag) (ta : TA) : TI := fun σ H R => ta σ H fun vs H1 => ∃ a xs, vs = [.ref a] ∧ ((SqL K H1 a xs ∧ R (Ite K a) H1) ∨ (SqT K H1 a xs ∧ R (IteT K a) H1))
theorem pi_enumA {X : Cx} {e : Expr} {ta : TA} {p pos tpos : Pos} {elts : List Expr} {kk : Nat} (hg : Gl X "enumerate") (hm : X.mg "enumerate" = none) (ha : PA X [e] ta) (hs : starEach [e] X.env = [(false, eval e X.env)] := by rfl) :
    PI X (.Tuple elts kk tpos) (.Call (.Name "enumerate" p) [e] [] pos) (iEnumA X.K ta) := by
  refine ⟨fun pins s σ H R I h => ?_⟩
  refine Call_ (ld_blt I hg hm boot_enumerate (PyProof.Rows.callWith_type1 (thn (ha.run pos pins s σ H _ I h) fun us s1 ⟨vs, H1, I1, r1, q1⟩ => ?_) hs rfl))
  obtain ⟨a, xs, rfl, q1⟩ := q1
  rw [Vals.ref1 r1]
  have fresh : ∀ b, b ∈ [s1.heap.objs.size + 1, s1.heap.objs.size] → FpOk X pins H1 b := fun b hb => by
    have e' : b = s1.heap.objs.size + 1 ∨ b = s1.heap.objs.size := by simpa using hb
    have hle : s1.heap.objs.size ≤ b := by omega
    exact I1.fpOk hle (I1.hok.fresh hle)
  rcases q1 with ⟨hq, q⟩ | ⟨hq, q⟩
  · obtain ⟨its, rv, p', hz⟩ := I1.list hq
    refine call_enumB (begins_list a its.toArray) p'.isList fun h' he hit hk => wpAny_pyIter_enum he ?_
    exact ⟨s1.heap.objs.size + 1, [s1.heap.objs.size + 1, s1.heap.objs.size], _, _, H1, rfl, I1.kept (t' := s1.toks) hk, turn_enum a (s1.heap.objs.size + 1) s1.heap.objs.size, ⟨⟨.none, he⟩, ⟨_, hit, rfl, rfl⟩, Nat.succ_ne_self _⟩, fresh, q⟩
  · obtain ⟨its, rv, p', hz⟩ := I1.tuple hq
    refine call_enumB (begins_tuple a its.toArray) p' fun h' he hit hk => wpAny_pyIter_enum he ?_
    exact ⟨s1.heap.objs.size + 1, [s1.heap.objs.size + 1, s1.heap.objs.size], _, _, H1, rfl, I1.kept (t' := s1.toks) hk, turn_enumT a (s1.heap.objs.size + 1) s1.heap.objs.size, ⟨⟨.none, he⟩, ⟨_, hit, rfl, rfl⟩, Nat.succ_ne_self _⟩, fresh, q⟩
def enumD (ds : List PyData) : List PyData := ds.zipIdx.map fun p => .tuple [.int (p.2 : Nat), p.1]
theorem enumD_get {ds : List PyData} {i : Nat} {a : PyData} (h : ds[i]? = some a) : (enumD ds)[i]? = some (.tuple [.int (i : Nat), a]) := by
  unfold enumD
  rw [List.getElem?_map, List.getElem?_zipIdx, h]
  simp
theorem enumD_len (ds : List PyData) : (enumD ds).length = ds.length := by simp [enumD]
theorem gives_enumL {K : PySem.W.Frag} {F : Hp} {a : Addr} {vs : List V} {ds : List PyData} (h1 : SqL K F a vs) (r1 : DpAll K F vs ds) : Gives K F (Ite K a) (enumD ds) := by
  unfold Gives
  rw [enumD_len, ← dps_len r1]
  have w0 := walk_enum (K := K) (a := a) (xs := vs)
  refine ⟨fun i H hi s => w0.goes i H hi (sqL_up s h1), fun H s => w0.stops H (sqL_up s h1), fun i H x H' hi s y => ⟨s, ?_⟩⟩
  obtain ⟨T, p, q, e1, e2, e3, e4, e5⟩ := w0.yields i H x H' hi (sqL_up s h1) y
  cases e4
  obtain ⟨da, f1, f2⟩ := dps_getv r1 e5
  exact ⟨_, enumD_get f1, .inr ⟨T, _, q, _, da, e1, e2, e3, rfl, .int _, f2⟩⟩
theorem gives_enumT {K : PySem.W.Frag} {F : Hp} {a : Addr} {vs : List V} {ds : List PyData} (h1 : SqT K F a vs) (r1 : DpAll K F vs ds) : Gives K F (IteT K a) (enumD ds) := by
  unfold Gives
  rw [enumD_len, ← dps_len r1]
  refine ⟨fun i H hi s => ⟨vs, vs[i], sqT_up s h1, List.getElem?_eq_getElem hi⟩, fun H s => ⟨vs, sqT_up s h1, rfl⟩, fun i H x H' hi s y => ⟨s, ?_⟩⟩
  obtain ⟨T, q, e1, e2, e3, e5⟩ := y
  obtain ⟨da, f1, f2⟩ := dps_getv r1 (e5 _ (sqT_up s h1))
  exact ⟨_, enumD_get f1, .inr ⟨T, _, q, _, da, e1, e2, e3, rfl, .int _, f2⟩⟩
def wEnum (te : DTE) : DTI := fun σ h Q => te σ h fun x h1 => match fz1 x h1 with
  | some (.list ds, h2) => Q (enumD ds) h2
  | some (.tuple ds, h2) => Q (enumD ds) h2
  | _ => False
theorem dw_enum {X : Cx} {e : Expr} {te : DTE} {p pos tpos : Pos} {elts : List Expr} {kk : Nat} (hg : Gl X "enumerate") (hm : X.mg "enumerate" = none) (he : DE X Γ e te) (hs : starEach [e] X.env = [(false, eval e X.env)] := by rfl) : DWk X Γ (.Tuple elts kk tpos) (.Call (.Name "enumerate" p) [e] [] pos) (wEnum te) := by
  refine ⟨fun σ h Q Q' k w => he.mono _ _ _ _ (fun x h1 w1 => ?_) w, pi_imp (pi_enumA hg hm (da_cons he da_nil hs).pa hs) fun σ H R ⟨σd, h, rs, rm, w⟩ => ?_⟩
  · split at w1
    · exact k _ _ w1
    · exact k _ _ w1
    · exact w1
  · refine lift_mk (mono_cons he.mono fun _ _ _ _ k w => k _ _ w) rs rm (C := fun xs h1 => ∃ x, xs = [x] ∧ match fz1 x h1 with
        | some (.list ds, h2) => (∀ J H', PX Γ H h H' h2 → RM X.K Γ H' h2 → Gives X.K (Fz Γ H' h2) J (enumD ds) → R J H')
        | some (.tuple ds, h2) => (∀ J H', PX Γ H h H' h2 → RM X.K Γ H' h2 → Gives X.K (Fz Γ H' h2) J (enumD ds) → R J H')
        | _ => False) (he.mono _ _ _ _ (fun x h1 w1 => ⟨x, rfl, w1⟩) w) fun xs h1 vs H1 px rs1 rvs rm1 w1 => ?_
    obtain ⟨x, rfl, w1⟩ := w1
    obtain ⟨v, rfl, rv⟩ := rvs1 rvs
    split at w1
    · rename_i ds h2 e1
      obtain ⟨p1, r1, d1⟩ := fz1_ok rv rm1 e1
      cases d1 with
      | @lst a1 vs1 _ s1 dd1 => exact ⟨a1, vs1, rfl, .inl ⟨sqL_up fz_sub s1, w1 _ _ (px.trans p1) r1 (gives_enumL s1 dd1)⟩⟩
    · rename_i ds h2 e1
      obtain ⟨p1, r1, d1⟩ := fz1_ok rv rm1 e1
      cases d1 with
      | @tup a1 vs1 _ s1 dd1 => exact ⟨a1, vs1, rfl, .inr ⟨sqT_up fz_sub s1, w1 _ _ (px.trans p1) r1 (gives_enumT s1 dd1)⟩⟩
    · exact w1.elim
end DL

namespace DL
open PySem PySem.Spec PyProof.Rows L2
open PySem.W (AlikeAll minD dataLt min_list_default alike)
set_option autoImplicit true

def dMinD (te : DTE) : DTE := fun σ h Q => te σ h fun x h1 => match asL h1 x with
  | some ds => AlikeAll ds ∧ PyData.depthAll ds ≤ 60 ∧ (match ds with
    | [] => Q (.d .none) h1
    | y :: ys => Q (.d (minD y ys)) h1)
  | none => False
end DL

namespace DL
open PySem PySem.Spec PyProof.Rows L2
set_option autoImplicit true

section
variable {P : Program} {w : World} {A : Around} {E : Value → Shared → Prop} {s : Shared}
end
section
variable {X : Cx} {a : Expr} {ta : TE}
end

section
open PySem.W PySem.Calls PySem.HandSPX
variable {prog : Program} {w : World} {A : Around} {R : Result → Shared → Prop} {s : Shared} {K : Frag} {mg : Str → Option Value} {x base qual : Str} {C Cb fI : Addr} {B newId initId : String} {bmB : List Value} {params : Arguments} {scope : Scope} {fd : FuncData}
theorem bind3f {kindOf : Str → Option NameKind} {f g : Str} {a v u : Value} (h1 : kindOf "self" = some .local) (h2 : kindOf f = some .local) (h3 : kindOf g = some .local) (ne : f ≠ ("self" : Str)) (ne2 : g ≠ ("self" : Str)) (nfg : f ≠ g) :
    bindL kindOf [("self", a), (f, v), (g, u)] (fun _ => none) "self" = some a ∧ bindL kindOf [("self", a), (f, v), (g, u)] (fun _ => none) f = some v ∧ bindL kindOf [("self", a), (f, v), (g, u)] (fun _ => none) g = some u := by
  have n1 : ¬ ("self" : Str) = f := fun z => ne z.symm
  have n2 : ¬ ("self" : Str) = g := fun z => ne2 z.symm
  refine ⟨?_, ?_, ?_⟩
  · simp [bindL, h1, h2, h3, n1, n2]
  · simp [bindL, h1, h2, h3, nfg]
  · simp [bindL, h1, h2, h3]
def map2 (f g : Str) (v u : Value) : Str → Option Value := fun y => if y = g then some u else if y = f then some v else none
theorem err_init2 {f g : Str} {q1 q2 q3 q4 q5 q6 q7 q8 q9 q10 q11 q12 q13 : Pos} {e t0 : Addr} {v u : Value} (T : ErrC K mg x base C Cb fI [f, g] B newId initId bmB) (F : FunD K "__init__" qual params [eCall base q1 q2 q3 q4 q5, ePut f q6 q7 q8 q9, ePut g q10 q11 q12 q13] scope [] [] fI fd) (S : EScope scope base [f, g]) (nfg : f ≠ g)
    (hb : ∀ (kV doc pm : Value) (an : Option Addr) (cdv ct : Value) (us : List Value), us.length = 3 → bindArgs (fnOf "__init__" qual params [eCall base q1 q2 q3 q4 q5, ePut f q6 q7 q8 q9, ePut g q10 q11 q12 q13] scope .none kV doc pm an cdv ct) ⟨us, []⟩ = pure ([("self" : Str), f, g].zip us))
    {pl : Env → Sem Bool} (hc : ∀ env : Env, eval (.Call (.Attribute (.Name base q1) "__init__" q2) [.Name "self" q3] [] q4) env = (do
      let ov ← eval (.Name base q1) env
      standAt q2.atName
      let (f, first) ← holding [ov] (getMethod ov "__init__" (pl env))
      callWith q4 f first (backTo q4 (starEach [.Name "self" q3] env)) (backToKw q4 (keywordEach [] env))))
    (hsw : ∀ env : Env, swapsWith (.Call (.Attribute (.Name base q1) "__init__" q2) [.Name "self" q3] [] q4) none q5.line env = pure false) (hdb : (base == ("__debug__" : Str)) = false)
    (hsw2 : ∀ env : Env, swapsWith (.Name f q8) (some (.Attribute (.Name "self" q6) f q7)) q9.line env = pure false) (hsw3 : ∀ env : Env, swapsWith (.Name g q12) (some (.Attribute (.Name "self" q10) g q11)) q13.line env = pure false)
    (X : K.In s.heap) (hlim : s.heap.NoLimit) (hglo : s.heap.Ns mainGlobals mg) (he : s.heap.get? e = some (excO C t0)) (hne : K.lookup e = none) (hroom : A.depth < recursionLimit)
    (k : ∀ h' tk dx t1, EInit s.heap h' e C dx t1 (map2 f g v u) → R (.ok (.ret .none)) { s with heap := h', toks := tk }) :
    codeAny (model prog w) A (.call (.ref fI) ⟨[.ref e, v, u], []⟩) R s := by
  obtain ⟨oc, od, dV, kV, doc, pm, an, cdv, ct, osl, rfl, lk, hcd, hD, hK⟩ := F.ex
  obtain ⟨hf1, hf2, hf3⟩ := S.fs f List.mem_cons_self
  obtain ⟨hg1, hg2, hg3⟩ := S.fs g (List.mem_cons_of_mem _ List.mem_cons_self)
  obtain ⟨nm, q, N, bs, bm, sn, sub, ab, col, dd, k0, k1, k2, k3, k5, hC, hbm⟩ := T.cls
  have hcl : clsIn K C = some { name := nm, bases := bs, mro := .ref C :: bm, ns := N, qualname := q, hasDict := true, slotNames := sn, subclasses := sub, abstract := ab, collection := col, hasDel := false } := by unfold clsIn; rw [hC] <;> rfl
  have dv : dV = .none := by
    rcases hD with ⟨_, z⟩ | ⟨z, _⟩
    · exact z
    · exact absurd rfl z
  subst dv
  refine Att.call_fn (binds := [("self", .ref e), (f, v), (g, u)]) X hlim lk hcd hroom (BindsTo.of_eq (hb _ _ _ _ _ _ [.ref e, v, u] rfl)) (by simp [S.me, hf1, hg1]) (fun s₁ IC => ?_) S.co S.gen S.kind
  obtain ⟨h₁, tk₁, rfl⟩ := IC.toInCall.same
  have kp : ∀ b o, s.heap.get? b = some o → h₁.get? b = some o := IC.toInCall.keep
  have hn := IC.toInCall.ns
  have X₁ : K.In h₁ := X.keeps kp
  have he₁ := kp _ _ he
  have kme : (envOfC qual scope s.heap.objs.size fI cdv).kindOf "self" = some .local := S.me
  have kf : (envOfC qual scope s.heap.objs.size fI cdv).kindOf f = some .local := hf1
  have kg : (envOfC qual scope s.heap.objs.size fI cdv).kindOf g = some .local := hg1
  obtain ⟨b1, b2, b3⟩ := bind3f (a := .ref e) (v := v) (u := u) kme kf kg hf2 hg2 nfg
  have lt : s.heap.objs.size < h₁.objs.size := hn.lt
  show wpAny _ _ (execs _ _) _ _ _
  refine wpAny_execs_cons (wpAny_Expr_any ?_ (by simp [interactive, envOfC, S.kind]) (hsw _))
  refine methodCall_KW (Calls.Name_function_global S.kind S.base (Calls.loadGlobal_global (hglo.keeps kp) T.gB ?_) hdb) (hc _)
  refine method_cls X₁ T.gaB (cls_value X₁ T.rdB T.biB T.hI ?_)
  refine callWith_method1 (first := []) ?_ rfl rfl
  show wpAny _ _ (spliced [(false, eval (.Name "self" q3) _)]) _ _ _
  refine Calls.spliced_cons (e_load (v := .ref e) S.kind kme hn b1 (Calls.spliced_nil ?_) (by decide))
  show wpAny _ _ (call (.builtin initId) [.ref e]) _ _ _
  refine wpAny_call (init_base T.FB (fun Y => excTail_contains Y bm hbm) (X₁ _ _ hC) he₁ (by rw [sizeLine_eq]; decide) fun h₂ t1 k₂ he₂ => ?_)
  have neL : s.heap.objs.size ≠ e := Nat.ne_of_gt (Heap.lt_size he)
  have X₂ : K.In h₂ := fun b o z => k₂ b o (fun y => by rw [y, hne] at z; cases z) (X₁ b o z)
  obtain ⟨oL, esL, nL, gL, dL, rL⟩ := hn
  have hn₂ : h₂.Ns s.heap.objs.size _ := ⟨oL, esL, nL, k₂ _ _ neL gL, dL, rL⟩
  show wpAny _ _ (execs _ _) _ _ _
  refine wpAny_execs_cons (plainObj_wpAny_Assign_Attribute ?_ (hsw2 _))
  refine e_load (v := v) S.kind kf hn₂ b2 (e_load (v := .ref e) S.kind kme hn₂ b1 ?_ (by decide)) hf3
  refine set_plain X₂ (ox := excO C t1) (od := none) ⟨he₂, rfl, rfl, trivial⟩ T.sa ?_
  refine put_first T.SF X₂ he₂ hcl T.ov rfl (T.tk f List.mem_cons_self) fun h₃ tk₃ dx k₃ dn dne he₃ hn₃ => ?_
  have old : ∀ b o, b ≠ e → s.heap.get? b = some o → h₃.get? b = some o := fun b o hb z => k₃ b o hb (k₂ b o hb (kp b o z))
  have X₃ : K.In h₃ := fun b o z => k₃ b o (fun y => by rw [y, hne] at z; cases z) (X₂ b o z)
  have hn₄ : h₃.Ns s.heap.objs.size _ := ⟨oL, esL, nL, k₃ _ _ neL (k₂ _ _ neL gL), dL, rL⟩
  show wpAny _ _ (execs _ _) _ _ _
  refine wpAny_execs_cons (plainObj_wpAny_Assign_Attribute ?_ (hsw3 _))
  refine e_load (v := u) S.kind kg hn₄ b3 (e_load (v := .ref e) S.kind kme hn₄ b1 ?_ (by decide)) hg3
  have hw : Within (fun y => if y = f then some v else none) [f] := fun y hy => by
    by_cases z : y = f
    · rw [z]; exact List.mem_cons_self
    · exact absurd (show (if y = f then some v else none) = none by rw [if_neg z]) hy
  obtain ⟨oD, esD, epD, hoD, hdD, _⟩ := hn₃.count hw
  refine set_plain X₃ (ox := { excO C t1 with dict := some dx }) (od := some oD) ⟨he₃, rfl, rfl, hoD⟩ T.sa ?_
  have dlt : s.heap.objs.size ≤ dx := Nat.le_trans (Nat.le_of_lt hn₂.lt) dn
  refine put_more T.SF X₃ he₃ hn₃ hw (by show 1 ≤ 1000; decide) hcl T.ov rfl (T.tk g (List.mem_cons_of_mem _ List.mem_cons_self)) fun h₅ tk₅ k₅ hn₅ => ?_
  show wpAny _ _ (execs _ _) _ _ _
  have lt2 : ∀ b o, s.heap.get? b = some o → b ≠ dx := fun b o z => Nat.ne_of_lt (Nat.lt_of_lt_of_le (Heap.lt_size z) dlt)
  exact wpAny_execs_nil (k h₅ tk₅ dx t1 ⟨fun b o hb z => k₅ b o (lt2 b o z) (old b o hb z), k₅ _ _ dne.symm he₃, dlt, dne, hn₅⟩)
end
theorem rel_two {f g : Str} {v v2 : V} {u u2 : Value} (r : RelV v u) (r2 : RelV v2 u2) (nfg : f ≠ g) (y : Str) : RelO (List.lookup y [(f, v), (g, v2)]) (map2 f g u u2 y) := by
  unfold map2
  by_cases q : y = g
  · subst q
    rw [if_pos rfl]
    have n : (y == f) = false := by simpa using (fun z : y = f => nfg z.symm)
    have z : List.lookup y [(f, v), (y, v2)] = some v2 := by simp [List.lookup, n]
    rw [z]
    exact r2
  · rw [if_neg q]
    have q' : (y == g) = false := by simpa using q
    by_cases p : y = f
    · subst p
      rw [if_pos rfl]
      have z : List.lookup y [(y, v), (g, v2)] = some v := by simp [List.lookup]
      rw [z]
      exact r
    · rw [if_neg p]
      have p' : (y == f) = false := by simpa using p
      have z : List.lookup y [(f, v), (g, v2)] = none := by simp [List.lookup, q', p']
      rw [z]
      trivial
def tMk2 (C : Addr) (f g : Str) (ta : TA) : L2.St → Hp → XK → Prop := fun σ H Q => ta σ H fun vs H1 => ∃ v v2, vs = [v, v2] ∧ ∀ d, H1 d = none → Q (.ref C) (some d) (upd H1 d (.xd [(f, v), (g, v2)]))
def Init2 (K : PySem.W.Frag) (mg : Str → Option Value) (C fI : Addr) (f g : Str) : Prop := ∀ (prog : Program) (w : World) (A : Around) (R : Result → Shared → Prop) (s : Shared) (e t0 : Addr) (v u : Value), K.In s.heap → s.heap.NoLimit → s.heap.Ns mainGlobals mg → s.heap.get? e = some (PySem.HandSPX.excO C t0) → K.lookup e = none → A.depth < recursionLimit →
  (∀ h' tk dx t1, EInit s.heap h' e C dx t1 (map2 f g v u) → R (.ok (.ret .none)) { s with heap := h', toks := tk }) → codeAny (model prog w) A (.call (.ref fI) ⟨[.ref e, v, u], []⟩) R s
section
variable {X : Cx} {x base f g : Str} {C Cb fI : Addr} {B newId initId : String} {bmB : List Value}
theorem pmk_2 {a b : Expr} {ta : TA} {p pos : Pos} {k : Nat} (T : ErrC X.K X.mg x base C Cb fI [f, g] B newId initId bmB) (N : Init2 X.K X.mg C fI f g) (nfg : f ≠ g) (hr : Room k X.A) (ha : PA X [a, b] ta) (hg : Gl X x) (hdb : (x == ("__debug__" : Str)) = false)
    (he : starEach (a :: [b]) X.env = (false, eval a X.env) :: starEach [b] X.env := by rfl) (hpl : (backTo pos (starEach [b] X.env)).any (·.1) = false := by rfl) :
    PMk X (.Call (.Name x p) [a, b] [] pos) (tMk2 C f g ta) := by
  intro pins s σ H Q I h
  refine wpAny_Call_Name_kw (ld_glob I hg T.gC ?_ hdb)
  refine PySem.W.callWith_K (h₀ := X.base) I.ok.mod.kin T.kC (thn (ha.run pos pins s σ H _ I h) fun us s1 hh => ?_) he hpl
  obtain ⟨vs, H1, I1, r1, v, v2, ev, q1⟩ := hh
  subst ev
  refine ⟨I1.kIn, ?_⟩
  obtain ⟨u, u2, rfl, ru, ru2⟩ := vals2 r1
  show wpAny _ _ (call (.ref C) [u, u2]) _ _ _
  have hlim := I1.nolimit
  have hglo : s1.heap.Ns mainGlobals X.mg := I1.mod.glob.keeps I1.bk
  obtain ⟨hp, gn, dr, tk, os⟩ := s1
  refine wpAny_call (err_made T I1.kIn hlim hglo (by have := hr.dp; omega) (by rw [sizeLine_eq]; show 2 ≤ 16777216; decide) (fun {A R s e t0} a1 a2 a3 a4 a5 a6 a7 => N _ _ A R s e t0 u u2 a1 a2 a3 a4 a5 a6 a7) fun h' tk' e d M => ?_)
  show MkP X pins σ Q (.ref e) ⟨h', gn, dr, tk', os⟩
  obtain ⟨oe, fv, hoe, hc, hd, hdat, h1⟩ := M.obj
  obtain ⟨G', g1, g2⟩ := restrict h' fun b => decide (b ≠ e)
  have gk : ∀ b, b ≠ e → G'.get? b = h'.get? b := fun b hb => g1 b (decide_eq_true hb)
  have ge : G'.get? e = none := g2 e (by simp)
  have old : ∀ b o, hp.get? b = some o → G'.get? b = some o := fun b o q => (gk b (Nat.ne_of_lt (Nat.lt_of_lt_of_le (Heap.lt_size q) M.new))).trans (M.keep b o q)
  have ob : ObjOk X.prog X.w (upd H1 d (.xd [(f, v), (g, v2)])) G' d (.xd [(f, v), (g, v2)]) := ⟨_, M.ns.at (fun o q => (gk d M.ne).trans q), fun y => rel_two ru ru2 nfg y⟩
  have J : Inv X pins σ (upd H1 d (.xd [(f, v), (g, v2)])) ⟨G', gn, dr, tk', os⟩ := I1.laid (t' := tk') old M.big ob
  refine ⟨e, oe, fv, ⟨G', gn, dr, tk', os⟩, _, .ref C, some d, rfl, J, fun b o q => ?_, ge, hoe, ⟨hc, hd⟩, hdat, h1, ?_, rfl, I1.bare, raises_own T.exC T.tyC, q1 d (I1.hok.fresh M.big)⟩
  · by_cases hb : b = e
    · have q' : G'.get? b = some o := q
      rw [hb, ge] at q'
      cases q'
    · exact (gk b hb).symm.trans q
  · rw [upd_ne (Ne.symm M.ne)]
    exact I1.hok.fresh M.new
/-- raise C(a, b) -/
def dRaise2 (E : DXS) (n f g : Str) (t : DTA) : DTS := fun _ σ h => t σ h fun xs h1 => match fzs xs h1 with
  | some ([d, d2], h2) => E ⟨n, [(f, d), (g, d2)]⟩ σ h2
  | _ => False
theorem ds_raise2 {a b : Expr} {t : DTA} {E : DXS} {p pos pos2 : Pos} {k : Nat} (hc : X.calm = true) (T : ErrC X.K X.mg x base (He.ga X.K x) Cb fI [f, g] B newId initId bmB) (N : Init2 X.K X.mg (He.ga X.K x) fI f g) (nfg : f ≠ g) (hr : Room k X.A) (tk : Takes X (liftX X.K Γ E)) (ha : DA X Γ [a, b] t) (hg : Gl X x := by rfl) (hdb : (x == ("__debug__" : Str)) = false := by decide)
    (he : starEach (a :: [b]) X.env = (false, eval a X.env) :: starEach [b] X.env := by rfl) (hpl : (backTo pos (starEach [b] X.env)).any (·.1) = false := by rfl) :
    DS X Γ (.Raise (some (.Call (.Name x p) [a, b] [] pos)) none pos2) (dRaise2 E x f g t) := by
  refine ⟨fun D D' σ h l w => w, ps_imp (ps_raise hc tk (pmk_2 T N nfg hr ha.pa hg hdb he hpl)) fun D σ H ⟨σd, h, rs, rm, w⟩ => ?_⟩
  refine lift_mk ha.mono rs rm w fun xs h1 vs H1 px rs1 rvs rm1 w1 => ?_
  split at w1
  · rename_i d d2 h2 e1
    obtain ⟨p2, rm2, dp⟩ := fzs_ok rvs rm1 e1
    obtain ⟨v, v2, dv, dv2, rfl⟩ : ∃ v v2, Dp X.K (Fz Γ H1 h2) v d ∧ Dp X.K (Fz Γ H1 h2) v2 d2 ∧ vs = [v, v2] := by
      cases dp with
      | cons a b => cases b with
        | cons b c => cases c; exact ⟨_, _, a, b, rfl⟩
    refine ⟨v, v2, rfl, fun dd nd => ?_⟩
    have p3 : PX Γ H1 h2 (upd H1 dd (.xd [(f, v), (g, v2)])) h2 := rm2.px nd
    refine ⟨⟨x, [(f, d), (g, d2)]⟩, σd, h2, (rs1.up p2).up p3, RM.new nd rm2, ⟨rfl, .inr ⟨dd, [(f, v), (g, v2)], rfl, Fz.of upd_same (rm2.tracked nd) (rm2.notx nd), .cons ⟨rfl, dp_up p3.ex _ _ dv⟩ (.cons ⟨rfl, dp_up p3.ex _ _ dv2⟩ .nil)⟩⟩, w1⟩
  · exact w1.elim
end
def Err2 (K : PySem.W.Frag) (mg : Str → Option Value) (x f g : Str) : Prop := ∃ (base : Str) (Cb fI : Addr) (B newId initId : String) (bmB : List Value), ErrC K mg x base (He.ga K x) Cb fI [f, g] B newId initId bmB ∧ Init2 K mg (He.ga K x) fI f g
theorem ds_raiseE2 {X : Cx} {x f g : Str} {a b : Expr} {t : DTA} {E : DXS} {p pos pos2 : Pos} {k : Nat} (hc : X.calm = true) (T : Err2 X.K X.mg x f g) (nfg : f ≠ g) (hr : Room k X.A) (tk : Takes X (liftX X.K Γ E)) (ha : DA X Γ [a, b] t) (hg : Gl X x := by rfl) (hdb : (x == ("__debug__" : Str)) = false := by decide)
    (he : starEach (a :: [b]) X.env = (false, eval a X.env) :: starEach [b] X.env := by rfl) (hpl : (backTo pos (starEach [b] X.env)).any (·.1) = false := by rfl) :
    DS X Γ (.Raise (some (.Call (.Name x p) [a, b] [] pos)) none pos2) (dRaise2 E x f g t) := by
  obtain ⟨base, Cb, fI, B, newId, initId, bmB, T1, T2⟩ := T
  exact ds_raise2 hc T1 T2 nfg hr tk ha hg hdb he hpl

section
variable {X : Cx} {x : Str} {cv : Value} {body suite : List Stmt} {b₀ : Stmt} {np pos pos' : Pos} {kt : Str → Str → Option Bool} {tb : DXS → DTS} {ts : Addr → DExc → DTS} {Eo : DXS}
end

section
variable {X : Cx}
end
end DL

namespace DL
open PySem PySem.Spec PyProof.Rows L2
set_option autoImplicit true

def chainK (r r' : DR2) (tc : DTE) (σ : DSt) (y : SV) (Q : DK) : DK := fun z h3 => match z with
  | .d (.bool k) => if k = true then tc σ h3 fun w h4 => r' y w h4 Q else Q (.d (.bool false)) h3
  | _ => False
def dChain (r r' : DR2) (ta tb tc : DTE) : DTE := fun σ h Q => ta σ h fun x h1 => tb σ h1 fun y h2 => r x y h2 (chainK r r' tc σ y Q)
section
variable {X : Cx} {a b c : Expr} {ta tb tc : DTE} {pos : Pos}
theorem mono_chain {r r' : DR2} (m : ∀ x y h (Q Q' : DK), (∀ z h', Q z h' → Q' z h') → r x y h Q → r x y h Q') (m' : ∀ x y h (Q Q' : DK), (∀ z h', Q z h' → Q' z h') → r' x y h Q → r' x y h Q') (ma : Mono ta) (mb : Mono tb) (mc : Mono tc) : Mono (dChain r r' ta tb tc) :=
  fun σ h Q Q' k w => ma _ _ _ _ (fun x h1 w1 => mb _ _ _ _ (fun y h2 w2 => m _ _ _ _ _ (fun z h3 w3 => by
    unfold chainK at w3 ⊢
    split at w3
    · split at w3
      · rename_i k1 e
        rw [if_pos e]
        exact mc _ _ _ _ (fun w h4 w4 => m' _ _ _ _ _ k w4) w3
      · rename_i k1 e
        rw [if_neg e]
        exact k _ _ w3
    · exact w3.elim) w2) w1) w
theorem chain_lift {K : PySem.W.Frag} {r r' : DR2} {s s' : R2} (l : LR2 K Γ r s) (l' : LR2 K Γ r' s') (ma : Mono ta) (mb : Mono tb) (mc : Mono tc) : ∀ σ H Q, liftV K Γ (dChain r r' ta tb tc) σ H Q → tChain s s' (liftV K Γ ta) (liftV K Γ tb) (liftV K Γ tc) σ H Q := fun σ H Q ⟨σd, h, rs, rm, w⟩ =>
  lift_mk ma rs rm w fun x h1 v H1 px rs1 rv rm1 w1 => lift_mk mb rs1 rm1 w1 fun y h2 u H2 px2 rs2 ru rm2 w2 =>
    l.run x y v u H2 h2 _ _ (rv.up px2) ru rm2 w2 fun z h3 w' H3 px3 rz rm3 q => by
      unfold chainK at q
      split at q
      · rename_i k1
        cases rz
        refine ⟨k1, rfl, ?_⟩
        split at q
        · rename_i e
          rw [if_pos e]
          exact lift_mk mc (rs2.up px3) rm3 q fun z2 h4 w2 H4 px4 rs4 rw4 rm4 q4 => l'.run y z2 u w2 H4 h4 _ Q ((ru.up px3).up px4) rw4 rm4 q4 fun z5 h5 w5 H5 px5 rz5 rm5 q5 => q5 w5 H5 ((((px.trans px2).trans px3).trans px4).trans px5) rz5 rm5
        · rename_i e
          rw [if_neg e]
          exact q (.bl false) H3 ((px.trans px2).trans px3) rv_bl rm3
      · exact q.elim
theorem de_chain {op op' : CmpOp} {r r' : DR2} {s s' : R2} (ho : OpR X (compareOp op) s) (l : LR2 X.K Γ r s) (ho' : OpR X (compareOp op') s') (l' : LR2 X.K Γ r' s') (ha : DE X Γ a ta) (hb : DE X Γ b tb) (hc : DE X Γ c tc)
    (hm : lastMarks [op, op'] [b, c] = false := by with_unfolding_all rfl) : DE X Γ (.Compare a [op, op'] [b, c] pos) (dChain r r' ta tb tc) :=
  ⟨mono_chain l.mono l'.mono ha.mono hb.mono hc.mono, pe_imp (pe_chain ho ho' ha.pe hb.pe hc.pe hm) (chain_lift l l' ha.mono hb.mono hc.mono)⟩
theorem dt_chain {op op' : CmpOp} {r r' : DR2} {s s' : R2} (ho : OpR X (compareOp op) s) (l : LR2 X.K Γ r s) (ho' : OpR X (compareOp op') s') (l' : LR2 X.K Γ r' s') (ha : DE X Γ a ta) (hb : DE X Γ b tb) (hc : DE X Γ c tc)
    (hm : lastMarks [op, op'] [b, c] = false := by with_unfolding_all rfl) : DT X Γ (.Compare a [op, op'] [b, c] pos) (dTest (dChain r r' ta tb tc)) :=
  ⟨mono_test (mono_chain l.mono l'.mono ha.mono hb.mono hc.mono), pt_imp (pt_chain ho ho' ha.pe hb.pe hc.pe hm) fun σ H Q w => by
    obtain ⟨σd, h, rs, rm, w⟩ := test_lift (mono_chain l.mono l'.mono ha.mono hb.mono hc.mono) σ H Q w
    exact chain_lift l l' ha.mono hb.mono hc.mono σ H _ ⟨σd, h, rs, rm, w⟩⟩
end

def rdIsB : DR2 := fun x y h Q => match x, y with
  | .d (.bool a), .d (.bool b) => Q (.d (.bool (decide (a = b)))) h
  | _, _ => False
def rdNotB : DR2 := fun x y h Q => match x, y with
  | .d (.bool a), .d (.bool b) => Q (.d (.bool (!decide (a = b)))) h
  | _, _ => False
theorem de_gint {X : Cx} {x : Str} {i : Int} {pos : Pos} (hg : Gl X x) (hm : ∃ t, X.mg x = some (.int i t)) (hd : (x == ("__debug__" : Str)) = false := by decide) : DE X Γ (.Name x pos) (dC (.int i)) := by
  obtain ⟨t, e⟩ := hm
  exact de_c (pe_glob hg e (v := .int i) ⟨t, rfl⟩ hd) fun _ => .int i
theorem dps_strs {K : PySem.W.Frag} {H : Hp} : ∀ (xs : List Str), DpAll K H (xs.map V.str) (xs.map PyData.str)
  | [] => .nil
  | x :: xs => .cons (.str x) (dps_strs xs)
/-- a tuple of texts of the module -/
def GTup (K : PySem.W.Frag) (mg : Str → Option Value) (x : Str) (zs : List Str) : Prop := mg x = some (.ref (He.ga K x)) ∧ He.tupB K x (zs.map He.Dv.str) = true
theorem de_gtup {X : Cx} {x : Str} {zs : List Str} {pos : Pos} (hg : Gl X x) (hm : GTup X.K X.mg x zs) (hd : (x == ("__debug__" : Str)) = false := by decide) : DE X Γ (.Name x pos) (dC (.tuple (zs.map PyData.str))) :=
  de_c (pe_glob hg hm.1 (v := .ref (He.ga X.K x)) rfl hd) fun H => .tup (by
    have z := He.tupB_ok hm.2 H
    rw [List.map_map] at z
    exact z) (dps_strs zs)
end DL

namespace DL
open PySem PySem.Spec PyProof.Rows L2
set_option autoImplicit true

theorem tuple_mul1 (l : Addr) (items : Array Value) (n : Nat) (dd : Option Addr) (sl : Array (Option Value)) (u : Tok) :
    Meets (Builtin.«tuple.__mul__» ⟨[.ref l, .int 1 u], []⟩) (fun _ R s => s.heap.get? l = some { cls := .type "tuple", dict := dd, data := .seq items n, slots := sl } ∧ R (.ok (.ret (Value.ref l))) s) :=
  .of_wp fun prog w A R s h => by
    obtain ⟨hp, g, d, tk, os⟩ := s
    obtain ⟨hl, h⟩ := h
    have f1 := AutoSeq1.idx_int
    wp_walk using wpAny_loadPart' hl
    exact ⟨_, rfl, h⟩
def rRep1 (K : PySem.W.Frag) : R2 := fun x y H Q => ∃ l xs, x = .ref l ∧ y = .int 1 ∧ SqT K H l xs ∧ Q (.ref l) H
theorem op_rep1 {X : Cx} : OpR X (binaryOp .Mult) (rRep1 X.K) := by
  intro pins s σ H x y v u Q I rx ry h
  obtain ⟨l, xs, rfl, rfl, hT, q⟩ := h
  cases rx
  obtain ⟨t, rfl⟩ := ry
  obtain ⟨its, r, ⟨⟨cls, dd, data, sl⟩, ho, hc, n, hd⟩, hs⟩ := I.tuple hT
  simp only at hc hd
  subst hc hd
  exact wpAny_binaryOp_repeat_ref (T := "tuple") (U := "int") (by decide) ⟨_, ho, rfl⟩ (fun s' => typeIs_int s' 1 t) noFill_tuple_mul F.fills_int_mul F.slot_int_rmul repeat_tuple F.slot_int_index.lookup
    (call_meets F.slot_int_rmul (typeIs_int s 1 t) F.entry_int_rmul (F.args_int_rmul_2 _ _) (int_rmul_tuple 1 t l its.toArray n dd sl)
      ⟨ho, rfl, ⟨_, ho, rfl⟩, call_meets F.slot_tuple_mul ⟨_, ho, rfl⟩ F.entry_tuple_mul (F.args_tuple_mul_2 _ _) (tuple_mul1 l its.toArray n dd sl t) ⟨ho, .ref l, H, I, rfl, q⟩⟩)
def rMulT (K : PySem.W.Frag) : R2 := fun x y H Q => rRep1 K x y H Q ∨ rRepT K x y H Q
theorem op_mulT {X : Cx} : OpR X (binaryOp .Mult) (rMulT X.K) := op_rep1.or op_repT
def rdMulT : DR2 := fun x y h Q => match x, asInt y with
  | .d (.tuple ds), some k => ds ≠ [] ∧ 1 ≤ k ∧ k ≤ 1000 ∧ ds.length ≤ 1000 ∧ Q (.d (.tuple (List.replicate k.toNat ds).flatten)) h
  | _, _ => False
theorem lr_mulT {K : PySem.W.Frag} : LR2 K Γ rdMulT (rMulT K) := by
  refine ⟨fun x y h Q Q' k w => ?_, fun x y v u H h C' Q rv ru rm w k => ?_⟩
  · unfold rdMulT at w ⊢
    split at w
    · exact ⟨w.1, w.2.1, w.2.2.1, w.2.2.2.1, k _ _ w.2.2.2.2⟩
    · exact w
  · unfold rdMulT at w
    split at w
    · rename_i ds j e2
      obtain ⟨w1, w2, w3, w4, w5⟩ := w
      have rv0 := rv
      cases rv with
      | tup hs hall =>
        rename_i a xs
        by_cases q : j = 1
        · subst q
          have e : (List.replicate (1 : Int).toNat ds).flatten = ds := by simp
          rw [e] at w5
          exact .inl ⟨a, xs, rfl, asInt_ok ru e2, sqT_up fz_sub hs, k _ _ _ H PX.refl rv0 rm w5⟩
        · have hl := dps_len hall
          refine .inr ⟨a, j, xs, rfl, asInt_ok ru e2, sqT_up fz_sub hs, fun z => w1 ?_, by omega, w3, by omega, fun p hp => ?_⟩
          · rw [z] at hl
            exact List.eq_nil_of_length_eq_zero (by simpa using hl.symm)
          · obtain ⟨p1, r1, v1⟩ := new_tup hp rm (dps_rep hall j.toNat)
            exact k _ _ _ _ p1 v1 r1 w5
    · exact w.elim
end DL

namespace DL
open PySem PySem.Spec PyProof.Rows L2
set_option autoImplicit true

theorem rvf_rv {K : PySem.W.Frag} {Γ : GI} {H : Hp} {h : MH} {x : SV} {v : V} (r : RVF K (Fz Γ H h) x v) : RV K Γ H h x v := by cases x <;> exact r
theorem rv_rvf {K : PySem.W.Frag} {Γ : GI} {H : Hp} {h : MH} {x : SV} {v : V} (r : RV K Γ H h x v) : RVF K (Fz Γ H h) x v := by cases x <;> exact r
/-- the pairs of one's own dict -/
def asDc (h : MH) : SV → Option (Addr × List (Key × SV))
  | .own a => match h a with
    | some (.dct ps) => some (a, ps)
    | _ => none
  | .d _ => none
theorem asDc_ok {h : MH} {x : SV} {p : Addr × List (Key × SV)} (e : asDc h x = some p) : x = .own p.1 ∧ h p.1 = some (.dct p.2) := by
  cases x with
  | d _ => cases e
  | own b =>
    cases q : h b with
    | none => simp only [asDc, q] at e; cases e
    | some m => cases m <;> simp only [asDc, q] at e <;> cases e <;> exact ⟨rfl, q⟩
theorem dc_at {K : PySem.W.Frag} {Γ : GI} {H : Hp} {h : MH} {x : SV} {v : V} {p : Addr × List (Key × SV)} (rm : RM K Γ H h) (rv : RV K Γ H h x v) (e : asDc h x = some p) : v = .ref p.1 ∧ h p.1 = some (.dct p.2) ∧ ∃ kvs, H p.1 = some (.dK kvs) ∧ Paired (RPF K (Fz Γ H h)) p.2 kvs := by
  obtain ⟨ex, ea⟩ := asDc_ok e
  subst ex
  obtain ⟨u0, f1, f2⟩ := ro_at (rm.ob _ _ ea)
  cases u0 <;> first | exact f2.elim | skip
  exact ⟨rv, ea, _, f1, f2⟩
theorem own_newG {K : PySem.W.Frag} {Γ : GI} {H : Hp} {h : MH} {p : Addr} {u : HO} {o : MO} (n : H p = none) (r : RM K Γ H h) (hd : ROF K (Fz Γ H h) o u) : PX Γ H h (upd H p u) (mput h p o) ∧ RM K Γ (upd H p u) (mput h p o) ∧ h p = none :=
  ⟨own_px n (r.tracked n) (r.notx n), own_rmG n r hd, r.tracked n⟩
section
variable {X : Cx} {e o f : Expr} {te to ti tx : DTE} {t : DTA} {es : List Expr} {pos apos cpos : Pos}
/-- (a, .., z), of what is one's own as it is -/
def dTupO (t : DTA) : DTE := fun σ h Q => t σ h fun xs h1 => xs.length ≤ sizeLine ∧ ∀ p, h1 p = none → Q (.own p) (mput h1 p (.tpl xs))
theorem rvs_rof {K : PySem.W.Frag} {Γ : GI} {H : Hp} {h : MH} {xs : List SV} {vs : List V} (r : RVs K Γ H h xs vs) : Paired (RVF K (Fz Γ H h)) xs vs := paired_imp (fun _ _ => rv_rvf) r
theorem de_tupO {x1} (ha : DA X Γ es t) : DE X Γ (.Tuple es x1 pos) (dTupO t) :=
  ⟨fun σ h Q Q' k w => ha.mono _ _ _ _ (fun xs h1 w1 => ⟨w1.1, fun p hp => k _ _ (w1.2 p hp)⟩) w, pe_imp (pe_tup ha.pa) fun σ H Q ⟨σd, h, rs, rm, w⟩ =>
    lift_mk ha.mono rs rm w fun xs h1 vs H1 px rs1 rv rm1 w1 => ⟨by rw [rvs_len rv]; exact w1.1, fun p hp => by
      obtain ⟨a, b, c⟩ := own_newG (o := .tpl xs) (u := .tup vs) hp rm1 (show Paired _ _ _ from rvs_rof rv)
      exact w1.2 p c (.ref p) _ (px.trans a) rfl b⟩⟩
/-- [a, .., z], of what is one's own as it is -/
def dLstO (t : DTA) : DTE := fun σ h Q => t σ h fun xs h1 => xs.length ≤ sizeLine ∧ ∀ p, h1 p = none → Q (.own p) (mput h1 p (.seq xs))
def dPairs : List (DTE × DTE) → DSt → MH → (List (SV × SV) → MH → Prop) → Prop
  | [], _, h, Q => Q [] h
  | (tk, tv) :: r, σ, h, Q => tk σ h fun x h1 => tv σ h1 fun y h2 => dPairs r σ h2 fun ps h3 => Q ((x, y) :: ps) h3
def MonoP (trs : List (DTE × DTE)) : Prop := ∀ p ∈ trs, Mono p.1 ∧ Mono p.2
theorem mono_pairs : ∀ {trs : List (DTE × DTE)}, MonoP trs → Mono (dPairs trs)
  | [], _ => fun _ _ _ _ k w => k _ _ w
  | (tk, tv) :: r, m => fun σ h Q Q' k w => (m _ List.mem_cons_self).1 _ _ _ _ (fun x h1 w1 => (m _ List.mem_cons_self).2 _ _ _ _ (fun y h2 w2 => mono_pairs (trs := r) (fun p hp => m p (List.mem_cons_of_mem _ hp)) _ _ _ _ (fun ps h3 w3 => k _ _ w3) w2) w1) w
structure DPs (X : Cx) (Γ : GI) (pos : Pos) (keys : List (Option Expr)) (values : List Expr) (trs : List (DTE × DTE)) : Prop where
  mono : MonoP trs
  pps : PPs X pos keys values (trs.map fun p => (liftV X.K Γ p.1, liftV X.K Γ p.2))
theorem dps_nil0 {pos : Pos} : DPs X Γ pos [] [] [] := ⟨fun _ h => (by cases h), pps_nil⟩
theorem dps_cons0 {pos : Pos} {k v : Expr} {ks : List (Option Expr)} {vs : List Expr} {tk tv : DTE} {trs : List (DTE × DTE)} (hk : DE X Γ k tk) (hv : DE X Γ v tv) (hr : DPs X Γ pos ks vs trs) : DPs X Γ pos (some k :: ks) (v :: vs) ((tk, tv) :: trs) :=
  ⟨fun p hp => by
    rcases List.mem_cons.mp hp with q | q
    · subst q; exact ⟨hk.mono, hv.mono⟩
    · exact hr.mono p q, pps_cons hk.pe hv.pe hr.pps⟩
abbrev RPs (K : PySem.W.Frag) (Γ : GI) (H : Hp) (h : MH) : List (SV × SV) → List (V × V) → Prop := Paired fun p q => RV K Γ H h p.1 q.1 ∧ RV K Γ H h p.2 q.2
theorem pairs_lift {K : PySem.W.Frag} : ∀ {trs : List (DTE × DTE)}, MonoP trs → ∀ {σ : L2.St} {σd : DSt} {H : Hp} {h : MH} {C : List (SV × SV) → MH → Prop} {P : List (V × V) → Hp → Prop}, RSt K Γ H h σd σ → RM K Γ H h → dPairs trs σd h C →
    (∀ qs h1 ps H1, PX Γ H h H1 h1 → RSt K Γ H1 h1 σd σ → RPs K Γ H1 h1 qs ps → RM K Γ H1 h1 → C qs h1 → P ps H1) → tPairs (trs.map fun p => (liftV K Γ p.1, liftV K Γ p.2)) σ H P
  | [], _, _, _, _, _, _, _, rs, rm, w, k => k _ _ _ _ PX.refl rs .nil rm w
  | (tk, tv) :: r, m, σ, σd, H, h, C, P, rs, rm, w, k =>
    lift_mk (m _ List.mem_cons_self).1 rs rm w fun x h1 v H1 px rs1 rx rm1 w1 => lift_mk (m _ List.mem_cons_self).2 rs1 rm1 w1 fun y h2 u H2 px2 rs2 ry rm2 w2 =>
      pairs_lift (trs := r) (fun p hp => m p (List.mem_cons_of_mem _ hp)) rs2 rm2 w2 fun qs h3 ps H3 px3 rs3 rq rm3 w3 => k _ _ _ _ ((px.trans px2).trans px3) rs3 (.cons ⟨(rx.up px2).up px3, ry.up px3⟩ rq) rm3 w3
def keysOf : List (SV × SV) → Option (List (Key × SV))
  | [] => some []
  | (x, y) :: r => match asKey x, keysOf r with
    | some k, some rs => some ((k, y) :: rs)
    | _, _ => none
theorem keysOf_ok {K : PySem.W.Frag} {H : Hp} {h : MH} : ∀ {qs : List (SV × SV)} {ps : List (V × V)} {rs : List (Key × SV)}, RPs K Γ H h qs ps → keysOf qs = some rs → ∃ kvs : List (Key × V), ps = kvs.map (fun kv => (kV kv.1, kv.2)) ∧ Paired (RPF K (Fz Γ H h)) rs kvs
  | [], _, _, r, e => by cases r; cases e; exact ⟨[], rfl, .nil⟩
  | (x, y) :: qs, _, rs, r, e => by
    cases r with
    | @cons _ q _ ps h1 h2 =>
      unfold keysOf at e
      split at e
      · rename_i k rs' e1 e2
        cases e
        obtain ⟨kvs, e3, e4⟩ := keysOf_ok h2 e2
        refine ⟨(k, q.2) :: kvs, ?_, .cons ⟨rfl, rv_rvf h1.2⟩ e4⟩
        rw [List.map_cons, e3, ← asKey_ok h1.1 e1]
      · cases e
def mergeS (acc more : List (Key × SV)) : List (Key × SV) := more.foldl (fun acc kv => putS acc kv.1 kv.2) acc
theorem mergeS_ok {K : PySem.W.Frag} {F : Hp} : ∀ {more : List (Key × SV)} {mv : List (Key × V)}, Paired (RPF K F) more mv → ∀ {acc : List (Key × SV)} {av : List (Key × V)}, Paired (RPF K F) acc av → Paired (RPF K F) (mergeS acc more) (mergeK av mv)
  | _, _, .nil, _, _, r => r
  | (k, y) :: more, (k', v) :: mv, .cons h t, acc, av, r => by
    obtain ⟨e1, e2⟩ := h
    have e1' : k = k' := e1
    subst e1'
    exact mergeS_ok t (putS_ok r e2)
def dDisp (trs : List (DTE × DTE)) : DTE := fun σ h Q => ∀ p, h p = none → dPairs trs σ (mput h p (.dct [])) fun ps h2 => match keysOf ps with
  | some kvs => h2 p = some (.dct []) ∧ kvs.length ≤ 15 ∧ Q (.own p) (mput h2 p (.dct (mergeS [] kvs)))
  | none => False
theorem de_disp {keys : List (Option Expr)} {values : List Expr} {trs : List (DTE × DTE)} (hp : DPs X Γ pos keys values trs) (hall : keys.all (·.isSome) = true := by rfl) (hl : keys.length = values.length := by rfl) (h0 : keys ≠ [] := by (intro z; cases z))
    (h15 : keys.length ≤ 15 := by decide) : DE X Γ (.Dict keys values pos) (dDisp trs) :=
  ⟨fun σ h Q Q' k w p hp0 => mono_pairs hp.mono _ _ _ _ (fun ps h2 w2 => by
    split at w2
    · exact ⟨w2.1, w2.2.1, k _ _ w2.2.2⟩
    · exact w2) (w p hp0), pe_imp (pe_disp hp.pps hall hl h0 h15) fun σ H Q ⟨σd, h, rs, rm, w⟩ p hp0 => by
    obtain ⟨a, b, c⟩ := own_newG (o := .dct []) (u := .dK []) hp0 rm (show Paired _ _ _ from .nil)
    refine pairs_lift hp.mono (rs.up a) b (w p c) fun qs h1 ps H1 px rs1 rq rm1 w1 => ?_
    split at w1
    · rename_i kvs e1
      obtain ⟨w1, w2, w3⟩ := w1
      obtain ⟨vs, e2, e3⟩ := keysOf_ok rq e1
      obtain ⟨u0, f1, f2⟩ := ro_at (rm1.ob _ _ w1)
      cases u0 <;> first | exact f2.elim | skip
      rename_i ks
      have hk : ks = [] := by
        have z := pairs_len (show Paired _ _ _ from f2)
        exact List.eq_nil_of_length_eq_zero (by simpa using z.symm)
      subst hk
      have px2 : PX Γ H1 h1 (upd H1 p (.dK (mergeK [] vs))) (mput h1 p (.dct (mergeS [] kvs))) := put_px w1 rm1
      exact ⟨f1, vs, e2, by rw [← pairs_len e3]; exact w2, w3 (.ref p) _ ((a.trans px).trans px2) rfl (put_rmG w1 rm1 (show Paired _ _ _ from mergeS_ok e3 .nil))⟩
    · exact w1.elim⟩
def dDGet2 (to ti tx : DTE) : DTE := fun σ h Q => to σ h fun x h1 => match asDc h1 x with
  | some _ => ti σ h1 fun y h2 => tx σ h2 fun z h3 => match asDc h3 x, asKey y with
    | some p, some k => Q ((valS p.2 k).getD z) h3
    | _, _ => False
  | none => False
theorem m1_of {m : Str} (base : attributeBase o m X.env (eval o X.env) = eval o X.env := by rfl)
    (few : ((backTo cpos (starEach [e] X.env)).all (fun x => !x.1) && (backToKw cpos (keywordEach [] X.env)).all (fun x => x.1.isSome) && decide (([e] : List Expr).length + ([] : List Keyword).length + (if ([] : List Keyword).isEmpty then 0 else 1) < 30)) = true := by rfl)
    (line : (apos.endLine == cpos.line) = true := by rfl) (trees : backTo cpos (starEach [e] X.env) = [(false, eval e X.env)] := by rfl) : M1 X o m apos e cpos := ⟨base, few, line, trees⟩
theorem m2_of {m : Str} (base : attributeBase o m X.env (eval o X.env) = eval o X.env := by rfl)
    (few : ((backTo cpos (starEach [e, f] X.env)).all (fun x => !x.1) && (backToKw cpos (keywordEach [] X.env)).all (fun x => x.1.isSome) && decide (([e, f] : List Expr).length + ([] : List Keyword).length + (if ([] : List Keyword).isEmpty then 0 else 1) < 30)) = true := by rfl)
    (line : (apos.endLine == cpos.line) = true := by rfl) (trees : backTo cpos (starEach [e, f] X.env) = [(false, eval e X.env), (false, eval f X.env)] := by rfl) : M2 X o m apos e f cpos := ⟨base, few, line, trees⟩
theorem valS_get {K : PySem.W.Frag} {F : Hp} {k : Key} {ps : List (Key × SV)} {kvs : List (Key × V)} (r : Paired (RPF K F) ps kvs) {z : SV} {v : V} (rz : RVF K F z v) : RVF K F ((valS ps k).getD z) ((valV kvs k).getD v) := by
  cases q : valS ps k with
  | none => rw [(valS_ok r).2 q]; exact rz
  | some y =>
    obtain ⟨w, e1, e2⟩ := (valS_ok r).1 y q
    rw [e1]; exact e2
theorem de_dget2 (hu : X.A.units + 1 < cLine) (ho : DE X Γ o to) (he : DE X Γ e ti) (hf : DE X Γ f tx) (m : M2 X o "get" apos e f cpos) : DE X Γ (.Call (.Attribute o "get" apos) [e, f] [] cpos) (dDGet2 to ti tx) :=
  ⟨fun σ h Q Q' k w => ho.mono _ _ _ _ (fun x h1 w1 => by
    split at w1
    · exact he.mono _ _ _ _ (fun y h2 w2 => hf.mono _ _ _ _ (fun z h3 w3 => by
        split at w3
        · exact k _ _ w3
        · exact w3) w2) w1
    · exact w1) w, pe_imp (pe_dget2 hu ho.pe he.pe hf.pe m) fun σ H Q ⟨σd, h, rs, rm, w⟩ => lift_mk ho.mono rs rm w fun x h1 v H1 px rs1 rv rm1 w1 => by
    split at w1
    · rename_i p e1
      obtain ⟨e2, e3, kvs, e4, e5⟩ := dc_at rm1 rv e1
      refine ⟨p.1, e2, .inl ⟨kvs, .inl e4⟩, lift_mk he.mono rs1 rm1 w1 fun y h2 u H2 px2 rs2 ry rm2 w2 => lift_mk hf.mono rs2 rm2 w2 fun z h3 w' H3 px3 rs3 rz rm3 w3 => ?_⟩
      split at w3
      · rename_i p2 k f1 f2
        obtain ⟨g2, g3, kvs2, g4, g5⟩ := dc_at rm3 ((rv.up px2).up px3) f1
        have ea : p.1 = p2.1 := V.ref.inj (e2.symm.trans g2)
        rw [ea]
        exact ⟨valV kvs2 k, by rw [asKey_ok ry f2]; exact DGet.k g4, w3 _ _ ((px.trans px2).trans px3) (rvf_rv (valS_get g5 (rv_rvf rz))) rm3⟩
      · exact w3.elim
    · exact w1.elim⟩
def setAllS : List Nat → List SV → DSt → DSt
  | i :: r, d :: ds, σ => setAllS r ds (σ.set i (some d))
  | _, _, σ => σ
theorem rawGsS_ok {K : PySem.W.Frag} {H : Hp} {h : MH} {Q : L2.St → Hp → Prop} : ∀ {is : List Nat} {vs : List V} {ds : List SV} {σd : DSt} {σ : L2.St}, Paired (RVF K (Fz Γ H h)) ds vs → ds.length = is.length → RSt K Γ H h σd σ →
    (∀ σ', RSt K Γ H h (setAllS is ds σd) σ' → Q σ' H) → rawGs is vs σ H Q
  | [], _, [], _, _, hd, _, rs, k => by cases hd; exact ⟨rfl, k _ rs⟩
  | [], _, _ :: _, _, _, _, hl, _, _ => by simp at hl
  | _ :: _, _, [], _, _, _, hl, _, _ => by simp at hl
  | i :: r, _, d :: ds, σd, σ, hd, hl, rs, k => by
    cases hd with
    | cons h1 h2 =>
      refine ⟨_, _, rfl, ?_⟩
      exact rawGsS_ok h2 (by simpa using hl) (rs.set (rvf_rv h1)) fun σ' rs' => k σ' rs'
def asTp (h : MH) : SV → Option (Addr × List SV)
  | .own a => match h a with
    | some (.tpl xs) => some (a, xs)
    | _ => none
  | .d _ => none
theorem asTp_ok {h : MH} {x : SV} {p : Addr × List SV} (e : asTp h x = some p) : x = .own p.1 ∧ h p.1 = some (.tpl p.2) := by
  cases x with
  | d _ => cases e
  | own b =>
    cases q : h b with
    | none => simp only [asTp, q] at e; cases e
    | some m => cases m <;> simp only [asTp, q] at e <;> cases e <;> exact ⟨rfl, q⟩
theorem tp_at {K : PySem.W.Frag} {Γ : GI} {H : Hp} {h : MH} {x : SV} {v : V} {p : Addr × List SV} (rm : RM K Γ H h) (rv : RV K Γ H h x v) (e : asTp h x = some p) : ∃ vs, v = .ref p.1 ∧ h p.1 = some (.tpl p.2) ∧ H p.1 = some (.tup vs) ∧ Paired (RVF K (Fz Γ H h)) p.2 vs := by
  obtain ⟨ex, ea⟩ := asTp_ok e
  subst ex
  obtain ⟨u0, f1, f2⟩ := ro_at (rm.ob _ _ ea)
  cases u0 <;> first | exact f2.elim | skip
  exact ⟨_, rv, ea, f1, f2⟩
def dUnp (te : DTE) (is : List Nat) : DTS := fun D σ h => te σ h fun x h1 => match asTp h1 x with
  | some p => p.2.length = is.length ∧ D.nx (setAllS is p.2 σ) h1
  | none => match bindT (.tup is) x σ with
    | some σ' => D.nx σ' h1
    | none => False
theorem ds_unp {tg : Expr} {is : List Nat} {e : Expr} {te : DTE} (he : DE X Γ e te) (hg : DG X tg (.tup is)) (hs : swapsWithSole [tg] e pos.line X.env = pure false := by rfl) (hw : swappedStores [tg] e X.env = pure none := by rfl)
    (h1 : (assignEach [tg] X.env).map (·.2) = [assign tg X.env] := by rfl) : DS X Γ (.Assign [tg] e pos) (dUnp te is) :=
  ⟨fun D D' σ h l w => he.mono _ _ _ _ (fun x h1 w1 => by
    split at w1
    · exact ⟨w1.1, l.nx _ _ w1.2⟩
    · split at w1
      · exact l.nx _ _ w1
      · exact w1) w, ps_imp (ps_asg he.pe hg.pg hs hw h1) fun D σ H ⟨σd, h, rs, rm, w⟩ =>
    lift_mk he.mono rs rm w fun x h1 v H1 px rs1 rv rm1 w1 => by
      split at w1
      · rename_i p e1
        obtain ⟨vs, e2, e3, e4, e5⟩ := tp_at rm1 rv e1
        exact ⟨p.1, vs, e2, SqT.of e4, by rw [← pairs_len e5]; exact w1.1, rawGsS_ok e5 w1.1 rs1 fun σr rs' => w1.2 σr H1 px rs' rm1⟩
      · split at w1
        · rename_i σ' e1
          exact rawT_okS rv rs1 rm1 e1 fun σr H2 px2 rm2 rs' _ => w1 σr H2 (px.trans px2) rs' rm2
        · exact w1.elim⟩
end
section
variable {σ : DSt} {h : MH} {Q : DK} {QA : List SV → MH → Prop} {D : DEnds} {x y z : SV} {ta tb tc tk tv to ti tx te : DTE} {tA : DTA} {a p : Addr} {trs : List (DTE × DTE)} {QP : List (SV × SV) → MH → Prop} {xs : List SV} {ps : List (Key × SV)} {k' : Key}
def tupOK (Q : DK) : List SV → MH → Prop := fun xs h1 => xs.length ≤ sizeLine ∧ ∀ p, h1 p = none → Q (.own p) (mput h1 p (.tpl xs))
theorem e_tupO (k : tA σ h (tupOK Q)) : dTupO tA σ h Q := k
theorem k_tupO (c : Nat.ble xs.length 16777216 = true) (k : ∀ p, h p = none → Q (.own p) (mput h p (.tpl xs))) : tupOK Q xs h := ⟨by rw [sizeLine_eq]; exact Nat.le_of_ble_eq_true c, k⟩
def lstOK (Q : DK) : List SV → MH → Prop := fun xs h1 => xs.length ≤ sizeLine ∧ ∀ p, h1 p = none → Q (.own p) (mput h1 p (.seq xs))
theorem e_lstO (k : tA σ h (lstOK Q)) : dLstO tA σ h Q := k
theorem k_lstO (c : Nat.ble xs.length 16777216 = true) (k : ∀ p, h p = none → Q (.own p) (mput h p (.seq xs))) : lstOK Q xs h := ⟨by rw [sizeLine_eq]; exact Nat.le_of_ble_eq_true c, k⟩
theorem e_prC (k : tk σ h fun x h1 => tv σ h1 fun y h2 => dPairs trs σ h2 fun ps h3 => QP ((x, y) :: ps) h3) : dPairs ((tk, tv) :: trs) σ h QP := k
theorem e_prN (k : QP [] h) : dPairs [] σ h QP := k
def dispK (Q : DK) (p : Addr) : List (SV × SV) → MH → Prop := fun ps h2 => match keysOf ps with
  | some kvs => h2 p = some (.dct []) ∧ kvs.length ≤ 15 ∧ Q (.own p) (mput h2 p (.dct (mergeS [] kvs)))
  | none => False
theorem e_disp (k : ∀ p, h p = none → dPairs trs σ (mput h p (.dct [])) (dispK Q p)) : dDisp trs σ h Q := k
theorem k_disp {qs : List (SV × SV)} {kvs rs : List (Key × SV)} (e : keysOf qs = some kvs) (e2 : h p = some (.dct [])) (c : Nat.ble kvs.length 15 = true) (em : mergeS [] kvs = rs) (k : Q (.own p) (mput h p (.dct rs))) : dispK Q p qs h := by
  unfold dispK
  rw [e]
  subst em
  exact ⟨e2, Nat.le_of_ble_eq_true c, k⟩
def unpK (is : List Nat) (D : DEnds) (σ : DSt) : DK := fun x h1 => match asTp h1 x with
  | some p => p.2.length = is.length ∧ D.nx (setAllS is p.2 σ) h1
  | none => match bindT (.tup is) x σ with
    | some σ' => D.nx σ' h1
    | none => False
theorem e_unp {is : List Nat} (k : te σ h (unpK is D σ)) : dUnp te is D σ h := k
theorem k_unp {is : List Nat} {σ' : DSt} (e : h a = some (.tpl xs)) (hl : xs.length = is.length) (es : setAllS is xs σ = σ') (k : D.nx σ' h) : unpK is D σ (.own a) h := by
  have q : asTp h (.own a) = some (a, xs) := by simp only [asTp, e]
  unfold unpK
  rw [q]
  subst es
  exact ⟨hl, k⟩
end
end DL

namespace DL
open PySem PySem.Spec PyProof.Rows L2
set_option autoImplicit true

def itemsO (b : Bool) : MO → Option (List SV)
  | .lst xs => if b = true then none else some (xs.map SV.d)
  | .seq xs => if b = true then none else some xs
  | .tpl xs => if b = true then some xs else none
  | _ => none
/-- a target that takes what is one's own, too -/
def bindS (g : Tg) (x : SV) (h : MH) (σ : DSt) : Option DSt := match asTp h x, g with
  | some p, .tup is => if p.2.length = is.length then some (setAllS is p.2 σ) else none
  | some _, .nm i => some (σ.set i (some x))
  | some _, .star _ _ => none
  | none, g => bindT g x σ
def forO (b : Bool) (g : Tg) (tb : DTS) (D : DEnds) (a : Addr) : Nat → Nat → DSt → MH → Prop
  | 0, _, _, _ => False
  | n + 1, i, σ, h => match h a with
    | some o => match itemsO b o with
      | some xs => match xs[i]? with
        | none => D.nx σ h
        | some x => match bindS g x h σ with
          | some σ1 => tb { nx := fun σ' h' => forO b g tb D a n (i + 1) σ' h', ct := fun σ' h' => forO b g tb D a n (i + 1) σ' h', bk := D.nx, rt := D.rt } σ1 h
          | none => False
      | none => False
    | none => False
def forGK (g : Tg) (tb : DTS) (D : DEnds) (σ : DSt) : DK := fun x h1 => match x with
  | .own a => ∃ b n, forO b g tb D a n 0 σ h1
  | .d (.list ds) => forL g tb D ds σ h1
  | .d (.tuple ds) => forL g tb D ds σ h1
  | _ => False
def dForG (te : DTE) (g : Tg) (tb : DTS) : DTS := fun D σ h => te σ h (forGK g tb D σ)
section
variable {X : Cx} {e : Expr} {te : DTE} {tg iter : Expr} {pos : Pos}
end
end DL

namespace DL
open PySem PySem.Spec PyProof.Rows L2
set_option autoImplicit true

def lcO (b : Bool) (g : Tg) (tt : DTT) (te : DTE) (σ : DSt) (a : Addr) : Nat → Nat → List PyData → MH → (List PyData → MH → Prop) → Prop
  | 0, _, _, _, _ => False
  | n + 1, i, acc, h, Q => match h a with
    | some o => match itemsO b o with
      | some xs => match xs[i]? with
        | none => Q acc h
        | some x => match bindS g x h σ with
          | some σ1 => tt σ1 h fun c h1 => if c = true then te σ1 h1 fun y h2 => match fz1 y h2 with
              | some (z, h3) => lcO b g tt te σ a n (i + 1) (acc ++ [z]) h3 Q
              | none => False
            else lcO b g tt te σ a n (i + 1) acc h1 Q
          | none => False
      | none => False
    | none => False
def lcGK (g : Tg) (tt : DTT) (te : DTE) (σ : DSt) (Q : List PyData → MH → Prop) : DK := fun x h1 => match x with
  | .own a => ∃ b n, n ≤ sizeLine ∧ lcO b g tt te σ a n 0 [] h1 Q
  | .d (.list ds) => ds.length ≤ sizeLine ∧ lcL g tt te σ ds [] h1 Q
  | .d (.tuple ds) => ds.length ≤ sizeLine ∧ lcL g tt te σ ds [] h1 Q
  | _ => False
def fLcG (tl : DTE) (g : Tg) (tt : DTT) (te : DTE) (vs : List Nat) : DTF := fun σ h Q => tl σ h (lcGK g tt te (wipeD σ vs) Q)
section
variable {X : Cx} {e : Expr} {te : DTE} {tg iter : Expr} {pos : Pos}
end
section
variable {σ : DSt} {h : MH} {D : DEnds} {a : Addr} {g : Tg} {tb : DTS} {tl te : DTE} {tt : DTT} {vs : List Nat} {QL : List PyData → MH → Prop} {xs ds : List PyData}
theorem e_forG (k : tl σ h (forGK g tb D σ)) : dForG tl g tb D σ h := k
theorem k_forGT (k : forL g tb D ds σ h) : forGK g tb D σ (.d (.tuple ds)) h := k
theorem k_forGL (k : forL g tb D ds σ h) : forGK g tb D σ (.d (.list ds)) h := k
theorem e_fLcG (k : tl σ h (lcGK g tt te (wipeD σ vs) QL)) : fLcG tl g tt te vs σ h QL := k
theorem k_lcGT (k : ds.length ≤ sizeLine ∧ lcL g tt te σ ds [] h QL) : lcGK g tt te σ QL (.d (.tuple ds)) h := k
theorem k_lcGL (k : ds.length ≤ sizeLine ∧ lcL g tt te σ ds [] h QL) : lcGK g tt te σ QL (.d (.list ds)) h := k
end
end DL

namespace DL
open PySem PySem.Spec PyProof.Rows L2 HT
set_option autoImplicit true

section
variable {prog : Program} {w : World} {A : Around} {E : Value → Shared → Prop} {s : Shared}
end
section
variable {X : Cx} {Γ : GI} {a b c e : Expr} {pos p2 : Pos} {ta tb tc te : DTE} {tg : Expr}
def dRevA (te : DTE) : DTE := fun σ h Q => te σ h fun x h1 => match asL h1 x with
  | some xs => Q (.d (.list xs.reverse)) h1
  | none => match asT x with
    | some xs => Q (.d (.tuple xs.reverse)) h1
    | none => False
theorem e_revA {σ : DSt} {h : MH} {Q : DK} {t : DTE} (k : t σ h fun x h1 => match asL h1 x with
  | some xs => Q (.d (.list xs.reverse)) h1
  | none => match asT x with
    | some xs => Q (.d (.tuple xs.reverse)) h1
    | none => False) : dRevA t σ h Q := k
end
end DL

namespace DL
open PySem PySem.Spec PyProof.Rows L2
set_option autoImplicit true

abbrev DSpE := Addr → DExc → MH → DK → Prop
def MonoE (W : DSpE) : Prop := ∀ a y h (Q Q' : DK), (∀ x h', Q x h' → Q' x h') → W a y h Q → W a y h Q'
def liftSpE (K : PySem.W.Frag) (T : List (Addr × Str)) (W : DSpE) (a : Addr) (y : DExc) (d : Option Addr) (H : Hp) (Q : VK) : Prop := ∃ (xs : List Addr) (h : MH), RX K (G0 xs T) H h y (.ref (He.ga K y.cls)) d ∧ RM K (G0 xs T) H h ∧
  W a y h fun r h' => ∀ v H', PXx xs H h H' h' → RV K (G0 xs T) H' h' r v → RM K (G0 xs T) H' h' → Q v H'
structure FnE (P : Program) (w : World) (K : PySem.W.Frag) (mg : Str → Option Value) (base : Heap) (T : List (Addr × Str)) (k : Nat) (f : Addr) (fd : FuncData) (p : Str) (W : DSpE) : Prop where
  mono : MonoE W
  run : ∀ (A : Around) (outer : List Env) (s : Shared) (H : Hp) (args : Args) (a : Addr) (oe : Obj) (y : DExc) (d : Option Addr) (Q : VK), L2H.RoomH k A → A.guards = some [] → Zc (.ref (He.ga K y.cls)) d oe → (∃ vs, oe.data = .fields vs) → L2H.PinOk outer H s (a, oe) →
    Env0 P w K mg base (A.mark (some (.ref a))) outer s H → BindsTo s fd args [(p, .ref a)] → liftSpE K T W a y d H Q → codeAny (model P w) (A.mark (some (.ref a))) (.call (.ref f) args) (CR (L2.CX P w) outer P w H s Q fun _ _ _ => False) s
theorem FnE.up {P : Program} {w : World} {K : PySem.W.Frag} {mg : Str → Option Value} {base : Heap} {T : List (Addr × Str)} {j k : Nat} {f : Addr} {fd : FuncData} {p : Str} {W : DSpE} (F : FnE P w K mg base T j f fd p W) (h : j ≤ k) : FnE P w K mg base T k f fd p W :=
  ⟨F.mono, fun A outer s H args a oe y d Q hr => F.run A outer s H args a oe y d Q (hr.mono h)⟩
section
variable {P : Program} {w : World} {K : PySem.W.Frag} {mg : Str → Option Value} {base : Heap}
end
def FnEC (P : Program) (w : World) (K : PySem.W.Frag) (mg : Str → Option Value) (base : Heap) (T : List (Addr × Str)) (k : Nat) (x : Str) (p : Str) (W : DSpE) : Prop :=
  ∃ f fd, FnE P w K mg base T k f fd p W ∧ PySem.W.keepIn K (.ref f) = true ∧ Binds K fd [p] [] ∧ mg x = some (.ref f)
theorem FnEC.up {P : Program} {w : World} {K : PySem.W.Frag} {mg : Str → Option Value} {base : Heap} {T : List (Addr × Str)} {j k : Nat} {x : Str} {p : Str} {W : DSpE} (F : FnEC P w K mg base T j x p W) (h : j ≤ k) : FnEC P w K mg base T k x p W := by
  obtain ⟨f, fd, a, b⟩ := F
  exact ⟨f, fd, a.up h, b⟩
section
variable {X : Cx} {Γ1 : GI} {a : Addr} {oe : Obj} {y : DExc} {d : Option Addr} {pn : List (Addr × Obj)} {x n pp : Str} {pos p p1 : Pos} {T : List (Addr × Str)} {k : Nat} {W : DSpE}
end
end DL

namespace DL
open PySem PySem.Spec PyProof.Rows L2
set_option autoImplicit true

def txD (z : Str) : List PyData := z.cps.toList.map fun c => PyData.str ⟨#[c]⟩
def rdInTx : DR2 := fun x y h Q => match asStr x, asStr y with
  | some i, some z => ∃ c, i = ⟨#[c]⟩ ∧ Q (.d (.bool (decide (c ∈ z.cps.toList)))) h
  | _, _ => False
section
variable {K : PySem.W.Frag}
theorem lr_inTx : LR2 K Γ rdInTx (fun x y H Q => ∃ (c : Nat) (z : Str), x = .str ⟨#[c]⟩ ∧ y = .str z ∧ Q (.bl (decide (c ∈ z.cps.toList))) H) := by
  refine ⟨fun x y h Q Q' k w => ?_, fun x y v u H h C' Q rv ru rm w k => ?_⟩
  · unfold rdInTx at w ⊢
    split at w
    · obtain ⟨c, e, q⟩ := w
      exact ⟨c, e, k _ _ q⟩
    · exact w
  · unfold rdInTx at w
    split at w
    · rename_i i j e1 e2
      obtain ⟨c, e, q⟩ := w
      exact ⟨c, j, by rw [asStr_ok rv e1, e], asStr_ok ru e2, k _ _ _ H PX.refl rv_bl rm q⟩
    · exact w.elim
theorem gives_tx {F : Hp} {z : Str} : Gives K F (Its z) (txD z) := by
  unfold Gives
  have el : (txD z).length = z.cps.size := by unfold txD; rw [List.length_map, Array.length_toList]
  rw [el]
  have w0 := walk_str (z := z)
  refine ⟨fun i H hi _ => w0.goes i H hi trivial, fun H _ => w0.stops H trivial, fun i H x H' hi s y => ⟨s, ?_⟩⟩
  obtain ⟨e, c, e2, e3⟩ := w0.yields i H x H' hi trivial y
  refine ⟨.str ⟨#[c]⟩, ?_, .inl ⟨e, by rw [e3]; exact .str _⟩⟩
  unfold txD
  rw [List.getElem?_map, Array.getElem?_toList, e2]
  rfl
end
section
variable {X : Cx} {a b c e o : Expr} {pos p2 apos cpos : Pos} {ta tb tc te to : DTE} {tg : Expr}
/-- for sign in text -/
def wTx (te : DTE) : DTI := fun σ h Q => te σ h fun x h1 => match asStr x with
  | some z => Q (txD z) h1
  | none => False
theorem dw_tx (he : DE X Γ e te) : DWk X Γ tg e (wTx te) :=
  ⟨fun σ h Q Q' k w => he.mono _ _ _ _ (fun x h1 w1 => by
    split at w1
    · exact k _ _ w1
    · exact w1) w, pi_imp (pi_str he.pe) fun σ H R ⟨σd, h, rs, rm, w⟩ => lift_mk he.mono rs rm w fun x h1 v H1 px rs1 rv rm1 w1 => by
      split at w1
      · rename_i z e1
        exact ⟨z, asStr_ok rv e1, w1 _ _ px rm1 gives_tx⟩
      · exact w1.elim⟩
theorem strs_get {H : Hp} {K : PySem.W.Frag} : ∀ {vs : List V} {ys : List Str}, DpAll K H vs (ys.map PyData.str) → vs = ys.map V.str
  | [], [], _ => rfl
  | _, [], h => dps_nil h
  | [], _ :: _, h => nomatch h
  | v :: vs, y :: ys, h => by
    cases h with
    | cons a b =>
      cases a
      rw [strs_get b]
      rfl
/-- sep.join(a list of texts) -/
def dJoin (to te : DTE) : DTE := fun σ h Q => to σ h fun x h1 => match asStr x with
  | some a => te σ h1 fun y h2 => match asL h2 y with
    | some ds => ∃ ys : List Str, ds = ys.map PyData.str ∧ (ys.map (·.length)).sum + ys.length * a.length ≤ 16777216 ∧ Q (.d (.str (Txt.join a ys))) h2
    | none => False
  | none => False
theorem de_join (ho : DE X Γ o to) (he : DE X Γ e te) (hs : starEach [e] X.env = [(false, eval e X.env)] := by rfl) (hbase : attributeBase o "join" X.env (eval o X.env) = eval o X.env := by rfl) (hline : (apos.endLine == pos.line) = true := by rfl) :
    DE X Γ (.Call (.Attribute o "join" apos) [e] [] pos) (dJoin to te) :=
  ⟨fun σ h Q Q' k w => ho.mono _ _ _ _ (fun x h1 w1 => by
    split at w1
    · exact he.mono _ _ _ _ (fun y h2 w2 => by
        split at w2
        · obtain ⟨ys, f1, f2, f3⟩ := w2
          exact ⟨ys, f1, f2, k _ _ f3⟩
        · exact w2) w1
    · exact w1) w, pe_imp (pe_join ho.pe he.pe hs hbase hline) fun σ H Q ⟨σd, h, rs, rm, w⟩ => lift_mk ho.mono rs rm w fun x h1 v H1 px rs1 rv rm1 w1 => by
    split at w1
    · rename_i z e1
      refine ⟨⟨z, asStr_ok rv e1⟩, lift_mk he.mono rs1 rm1 w1 fun y h2 u H2 px2 rs2 ry rm2 w2 => ?_⟩
      split at w2
      · rename_i ds f1
        obtain ⟨ys, rfl, f2, f3⟩ := w2
        obtain ⟨p, vs, rfl, s1, d1⟩ := asL_ok ry rm2 f1
        have ev := strs_get d1
        subst ev
        exact ⟨z, p, ys, asStr_ok rv e1, rfl, .inl s1, f2, f3 _ _ (px.trans px2) rv_str rm2⟩
      · exact w2.elim
    · exact w1.elim⟩
/-- a text of the module -/
theorem de_gtx {x z : Str} (hg : Gl X x) (hm : ∃ t, X.mg x = some (.str z t)) (hd : (x == ("__debug__" : Str)) = false := by decide) : DE X Γ (.Name x pos) (dC (.str z)) := by
  obtain ⟨t, e⟩ := hm
  exact de_c (pe_glob hg e (v := .str z) ⟨t, rfl⟩ hd) fun _ => .str z
end

section
variable {x y : SV} {h : MH} {Q : DK} {σ : DSt} {te to : DTE}
theorem r_inTx {c : Nat} {z : Str} (k : Q (.d (.bool (decide (c ∈ z.cps.toList)))) h) : rdInTx (.d (.str ⟨#[c]⟩)) (.d (.str z)) h Q := ⟨c, rfl, k⟩
theorem r_ixTx {z : Str} {n : Int} {c : Nat} (e : atI z.cps.toList n = some c) (l : z.length ≤ 16777216) (k : Q (.d (.str ⟨#[c]⟩)) h) : rdIx (.d (.str z)) (.d (.int n)) h Q := by
  show (match atI z.cps.toList n with
    | some c => z.length ≤ sizeLine ∧ Q (.d (.str ⟨#[c]⟩)) h
    | none => False)
  rw [e]
  exact ⟨by rw [sizeLine_eq]; exact l, k⟩
theorem r_addTx {i j : Str} (l : i.length + j.length ≤ 16777216) (k : Q (.d (.str (i ++ j))) h) : rdAdd (.d (.str i)) (.d (.str j)) h Q := ⟨by rw [sizeLine_eq]; exact l, k⟩
end
end DL

namespace DL
open PySem PySem.Spec PyProof.Rows L2
set_option autoImplicit true

section
variable {K : PySem.W.Frag} {H F : Hp} {h : MH} {x : SV} {v : V}
end
section
variable {X : Cx} {e o value : Expr} {te to tv : DTE} {pos pos' : Pos} {C f : Str}
end
def FnM (P : Program) (w : World) (K : PySem.W.Frag) (mg : Str → Option Value) (base : Heap) (T : List (Addr × Str)) (k : Nat) (C m : Str) (ps : List Str) (W : DSp) : Prop :=
  ∃ f fd, FnG P w K mg base T k f fd ps W ∧ Binds K fd ps [] ∧ Meth K (He.ga K C) m f ∧ Cls K (He.ga K C)
theorem FnM.up {P : Program} {w : World} {K : PySem.W.Frag} {mg : Str → Option Value} {base : Heap} {T : List (Addr × Str)} {j k : Nat} {C m : Str} {ps : List Str} {W : DSp} (F : FnM P w K mg base T j C m ps W) (h : j ≤ k) : FnM P w K mg base T k C m ps W := by
  obtain ⟨f, fd, a, b⟩ := F
  exact ⟨f, fd, a.up h, b⟩
section
variable {X : Cx} {k : Nat} {ps : List Str} {W : DSp} {E : DXS} {C m : Str} {p pos apos : Pos} {o e : Expr} {es : List Expr} {te : DTE} {t : DTA} {T : List (Addr × Str)}
end
def FnI (P : Program) (w : World) (K : PySem.W.Frag) (mg : Str → Option Value) (base : Heap) (T : List (Addr × Str)) (k : Nat) (C : Str) (ps : List Str) (z : Shape) (W : DSp) : Prop :=
  ∃ f fd mv, FnG P w K mg base T k f fd ps W ∧ KBn K fd ps (z.n + 1) z.ks (fun us ws => us ++ pick z.cs mv ws) (fun vs zs => vs ++ pick z.cs (z.dm.map cvV) zs) ∧ Mk K (He.ga K C) f ∧ mg C = some (.ref (He.ga K C))
theorem FnI.up {P : Program} {w : World} {K : PySem.W.Frag} {mg : Str → Option Value} {base : Heap} {T : List (Addr × Str)} {j k : Nat} {C : Str} {ps : List Str} {z : Shape} {W : DSp} (F : FnI P w K mg base T j C ps z W) (h : j ≤ k) : FnI P w K mg base T k C ps z W := by
  obtain ⟨f, fd, mv, a, b⟩ := F
  exact ⟨f, fd, mv, a.up h, b⟩
section
variable {X : Cx} {k : Nat} {ps : List Str} {W : DSp} {E : DXS} {C : Str} {p pos : Pos} {e : Expr} {es : List Expr} {kws : List Keyword} {t tk : DTA} {T : List (Addr × Str)} {z : Shape}
end
section
variable {σ : DSt} {h : MH} {Q : DK} {a : Addr} {C f m : Str} {fs : List (Str × SV)} {y : SV}
end
end DL

namespace DL
open PySem PySem.Spec PyProof.Rows L2
set_option autoImplicit true

structure ZAt (z TI TO i1 i2 l1 l2 S : Addr) (xs ys : Array Value) (i : Nat) (h : Heap) : Prop where
  ti : IsPair h TI (.ref i1) (.ref i2)
  a1 : h.IsListIter i1 l1 i
  a2 : h.IsListIter i2 l2 i
  b1 : h.IsList l1 xs
  b2 : h.IsList l2 ys
  to : ∃ o, h.get? TO = some o
  zz : (IsZip h z TI TO .none ∧ ∃ a b, IsPair h TO a b) ∨ ∃ T f oT, IsZipHeld h z TI TO T f ∧ h.get? T = some oT ∧ T ∉ [z, i1, i2, S]
abbrev zsix (z TI TO i1 i2 l1 l2 : Addr) : List Addr := [z, TI, TO, i1, i2, l1, l2]
theorem ZAt.keep {z TI TO i1 i2 l1 l2 S : Addr} {xs ys : Array Value} {i : Nat} {h h' : Heap} (st : ZAt z TI TO i1 i2 l1 l2 S xs ys i h) (off : S ∉ zsix z TI TO i1 i2 l1 l2) (k : ∀ b o, b ≠ S → h.get? b = some o → h'.get? b = some o) : ZAt z TI TO i1 i2 l1 l2 S xs ys i h' := by
  have ne : ∀ c, c ∈ zsix z TI TO i1 i2 l1 l2 → c ≠ S := fun c hc e => off (e ▸ hc)
  obtain ⟨ti, a1, a2, b1, b2, ⟨ot, to⟩, zz⟩ := st
  refine ⟨k _ _ (ne _ (by simp)) ti, a1.at fun o e => k _ o (ne _ (by simp)) e, a2.at fun o e => k _ o (ne _ (by simp)) e, b1.at fun o e => k _ o (ne _ (by simp)) e, b2.at fun o e => k _ o (ne _ (by simp)) e, ⟨ot, k _ _ (ne _ (by simp)) to⟩, ?_⟩
  rcases zz with ⟨q, a, b, p⟩ | ⟨T, f, oT, q, p, n⟩
  · exact .inl ⟨k _ _ (ne _ (by simp)) q, a, b, k _ _ (ne _ (by simp)) p⟩
  · exact .inr ⟨T, f, oT, k _ _ (ne _ (by simp)) q, k _ _ (fun e => n (by simp [e])) p, n⟩
section
variable {P : Program} {w : World} {A : Around} {E : Value → Shared → Prop} {s : Shared} {z TI TO i1 i2 l1 l2 S : Addr} {xs ys : Array Value}
end
section
variable {X : Cx} {pins : List (Addr × Obj)} {σ : L2.St} {A : Around} {z TI TO i1 i2 l1 l2 S : Addr} {xs ys : Array Value} {vs ws : List V}
end
section
variable {X : Cx} {pins : List (Addr × Obj)} {σ : L2.St} {A : Around} {s : Shared} {z TI TO i1 i2 l1 l2 : Addr} {xs ys : Array Value} {vs ws : List V}
end
section
variable {X : Cx} {a b : Expr} {p p2 pos pos2 : Pos} {ta tb : DTE}
end
section
variable {σ : DSt} {h : MH} {QL : List PyData → MH → Prop}
end
end DL

namespace DL
open PySem PySem.Spec PyProof.Rows L2
set_option autoImplicit true

def FnMK (P : Program) (w : World) (K : PySem.W.Frag) (mg : Str → Option Value) (base : Heap) (T : List (Addr × Str)) (k : Nat) (C m : Str) (ps : List Str) (z : Shape) (W : DSp) : Prop :=
  ∃ f fd mv, FnG P w K mg base T k f fd ps W ∧ KBn K fd ps (z.n + 1) z.ks (fun us ws => us ++ pick z.cs mv ws) (fun vs zs => vs ++ pick z.cs (z.dm.map cvV) zs) ∧ Meth K (He.ga K C) m f ∧ Cls K (He.ga K C)
theorem FnMK.up {P : Program} {w : World} {K : PySem.W.Frag} {mg : Str → Option Value} {base : Heap} {T : List (Addr × Str)} {j k : Nat} {C m : Str} {ps : List Str} {z : Shape} {W : DSp} (F : FnMK P w K mg base T j C m ps z W) (h : j ≤ k) : FnMK P w K mg base T k C m ps z W := by
  obtain ⟨f, fd, mv, a, b⟩ := F
  exact ⟨f, fd, mv, a.up h, b⟩
section
variable {X : Cx} {k : Nat} {ps : List Str} {W : DSp} {E : DXS} {C m : Str} {p pos apos : Pos} {o e : Expr} {es : List Expr} {kws : List Keyword} {te : DTE} {t tk : DTA} {T : List (Addr × Str)} {z : Shape}
end
section
variable {σ : DSt} {h : MH} {Q : DK}
end
end DL

namespace DL
open PySem PySem.Spec PyProof.Rows L2
set_option autoImplicit true

def zipSO (f0 : Value) (TI TO : Addr) : Obj := { cls := .type "zip", dict := none, data := .fields #[f0, .bool false, .bool true, .ref TI, .ref TO], slots := #[] }
abbrev ZipS (h : Heap) (z TI TO : Addr) (f0 : Value) : Prop := h.get? z = some (zipSO f0 TI TO)
section
variable {prog : Program} {w : World} {A : Around} {E : Value → Shared → Prop} {s : Shared}
/-- what a strict zip of the lists a, b leans on: itself, its two iterators (in TI), its own pair -/
structure ZsAt (h : Heap) (z TI TO i1 i2 a b : Addr) (k : Nat) (f0 : Value) : Prop where
  zip : ZipS h z TI TO f0
  its : IsPair h TI (.ref i1) (.ref i2)
  out : ∃ x y, IsPair h TO x y
  one : h.IsListIter i1 a k
  two : h.IsListIter i2 b k
end

theorem ZsAt.up {g g' : Heap} {z TI TO i1 i2 a b : Addr} {n : Nat} {f0 : Value} (Z : ZsAt g z TI TO i1 i2 a b n f0) (k : ∀ c, c ∈ [z, TI, TO, i1, i2] → ∀ o, g.get? c = some o → g'.get? c = some o) : ZsAt g' z TI TO i1 i2 a b n f0 :=
  ⟨k _ (by simp) _ Z.zip, k _ (by simp) _ Z.its, Z.out.imp fun _ => Exists.imp fun _ => k _ (by simp) _, Z.one.at fun o => k _ (by simp) o, Z.two.at fun o => k _ (by simp) o⟩
theorem ZsAt.in_ {g : Heap} {z TI TO i1 i2 a b : Addr} {n : Nat} {f0 : Value} (Z : ZsAt g z TI TO i1 i2 a b n f0) : ∀ c ∈ [z, TI, TO, i1, i2], ∃ o, g.get? c = some o ∧ ∀ v, o.data ≠ .cell v :=
  five ⟨_, Z.zip, fun _ => nofun⟩ ⟨_, Z.its, fun _ => nofun⟩ (Z.out.elim fun _ => Exists.rec fun _ e => ⟨_, e, fun _ => nofun⟩) (Z.one.imp fun _ p => ⟨p.1, fun _ q => by rw [p.2.2] at q; cases q⟩) (Z.two.imp fun _ p => ⟨p.1, fun _ q => by rw [p.2.2] at q; cases q⟩)
section
variable {X : Cx} {a b : Expr} {p pos tpos kpos cp : Pos} {elts : List Expr} {kk ck : Nat} {ta tb : DTE}
end

end DL

namespace DL
open PySem PySem.Spec PyProof.Rows L2
set_option autoImplicit true

theorem HdAt.same {h : Heap} {v : Value} {ns ms : List Int} (a : HdAt h v ns []) (b : HdAt h v ms []) : ns = ms := by
  refine (a.uniq b ?_).1
  obtain ⟨p, o, n, is, rfl, h1, _, h3, h4⟩ := a
  obtain ⟨p', o', n', js, e, g1, _, g3, g4⟩ := b
  cases e
  rw [h1] at g1
  cases g1
  rw [h3] at g3
  injection g3 with g3 _
  have e : is = js := by simpa using g3
  rw [← h4.length, ← g4.length, e]
open Classical in
section
variable {prog : Program} {w : World} {A : Around} {E : Value → Shared → Prop} {s : Shared}
end
section
variable {P : Program} {w : World} {A : Around} {E : Value → Shared → Prop} {s : Shared}
end
section
variable {X : Cx} {a b c : Expr} {ta : TE}
end
section
variable {X : Cx} {Γ : GI} {a b c e : Expr} {pos p2 : Pos} {ta tb tc te : DTE} {tg : Expr}
end
end DL

namespace DL
open PySem PySem.Spec PyProof.Rows L2
set_option autoImplicit true

section
variable {X : Cx} {Γ : GI} {e : Expr} {es : List Expr} {te : DTE} {ts : List DTE} {pos : Pos}
inductive DJ (X : Cx) (Γ : GI) : List Expr → List DTE → Prop where
  | nil : DJ X Γ [] []
  | cons {e : Expr} {t : DTE} {es : List Expr} {ts : List DTE} (h : DE X Γ e t) (r : DJ X Γ es ts) : DJ X Γ (e :: es) (t :: ts)
def dJs : List DTE → Str → DSt → MH → (Str → MH → Prop) → Prop
  | [], acc, _, h, Q => Q acc h
  | t :: ts, acc, σ, h, Q => t σ h fun x h1 => match asStr x with
    | some y => (acc ++ y).length ≤ 16777216 ∧ dJs ts (acc ++ y) σ h1 Q
    | none => False
theorem DJ.mono (d : DJ X Γ es ts) : ∀ (acc : Str) (σ : DSt) (h : MH) (Q Q' : Str → MH → Prop), (∀ x h', Q x h' → Q' x h') → dJs ts acc σ h Q → dJs ts acc σ h Q' := by
  induction d with
  | nil => exact fun acc σ h Q Q' k w => k _ _ w
  | cons a _ ih =>
    intro acc σ h Q Q' k w
    refine a.mono _ _ _ _ (fun x h1 w1 => ?_) w
    split at w1
    · exact ⟨w1.1, ih _ _ _ _ _ k w1.2⟩
    · exact w1
end

section
variable {X : Cx} {Γ : GI} {k : Nat} {f : Addr} {fd : FuncData} {ps : List Str} {W : DSp} {C : Str}
end
section
variable {σ : DSt} {h : MH} {Q : DK} {te : DTE} {ts : List DTE}
end
end DL

namespace DL
open PySem PySem.Spec PyProof.Rows L2
set_option autoImplicit true

abbrev zmI1 (a : Addr) : Obj := { cls := .type "tuple_iterator", data := .fields #[.ref a, .int 0 0] }
abbrev zmI2 (b : Addr) : Obj := { cls := .type "list_iterator", data := .fields #[.ref b, .int 0 0] }
abbrev zmP (x y : Value) : Obj := { cls := .type "tuple", data := .seq #[x, y] }
abbrev zmO (TI TO : Addr) : Obj := { cls := .type "zip", data := .fields #[.none, .bool false, .bool false, .ref TI, .ref TO] }
def zmHeap (h : Heap) (a b : Addr) : Heap :=
  ((((h.push (zmI1 a)).push (zmI2 b)).push (zmP (.ref h.objs.size) (.ref (h.objs.size + 1)))).push (zmP .none .none)).push (zmO (h.objs.size + 2) (h.objs.size + 3))
theorem zm_new (a b : Addr) (xs ys : Array Value) :
    Meets (Builtin.«zip.__new__» ⟨[.type "zip", .ref a, .ref b], []⟩) (fun _ R s => s.heap.IsTuple a xs ∧ s.heap.IsList b ys ∧ R (.ok (.ret (.ref (s.heap.objs.size + 4)))) { s with heap := zmHeap s.heap a b }) :=
  .of_wp fun prog w A R s h => by
    obtain ⟨hp, g, d, tk, os⟩ := s
    obtain ⟨ha, hb, h⟩ := h
    have hsub := sub_zip
    have i1 : Heap.IsTuple (Shared.heap ⟨hp, g, d, tk, os⟩) a xs := ha
    have i2 : Heap.IsList (Shared.heap ⟨hp.push (zmI1 a), g, d, tk, os⟩) b ys := Heap.IsList.push hb _
    wp_walk using wpAny_pyIter_tuple i1, wpAny_pyIter_list i2
    refine ⟨_, rfl, ?_⟩
    simpa [zmHeap, Heap.size_push, Nat.add_assoc, Builtin.SmallTypes.ownedTupleFields] using h
/-- what a zip of the tuple a and the list b leans on -/
structure ZmAt (h : Heap) (z TI TO i1 i2 a b : Addr) (k : Nat) (f0 : Value) : Prop where
  zip : IsZip h z TI TO f0
  its : IsPair h TI (.ref i1) (.ref i2)
  out : ∃ x y, IsPair h TO x y
  one : h.IsTupleIter i1 a k
  two : h.IsListIter i2 b k
theorem ZmAt.up {g g' : Heap} {z TI TO i1 i2 a b : Addr} {n : Nat} {f0 : Value} (Z : ZmAt g z TI TO i1 i2 a b n f0) (k : ∀ c, c ∈ [z, TI, TO, i1, i2] → ∀ o, g.get? c = some o → g'.get? c = some o) : ZmAt g' z TI TO i1 i2 a b n f0 :=
  ⟨k _ (by simp) _ Z.zip, k _ (by simp) _ Z.its, Z.out.imp fun _ => Exists.imp fun _ => k _ (by simp) _, Z.one.at fun o => k _ (by simp) o, Z.two.at fun o => k _ (by simp) o⟩
theorem ZmAt.in_ {g : Heap} {z TI TO i1 i2 a b : Addr} {n : Nat} {f0 : Value} (Z : ZmAt g z TI TO i1 i2 a b n f0) : ∀ c ∈ [z, TI, TO, i1, i2], ∃ o, g.get? c = some o ∧ ∀ v, o.data ≠ .cell v :=
  five ⟨_, Z.zip, fun _ => nofun⟩ ⟨_, Z.its, fun _ => nofun⟩ (Z.out.elim fun _ => Exists.rec fun _ e => ⟨_, e, fun _ => nofun⟩) (Z.one.imp fun _ p => ⟨p.1, fun _ q => by rw [p.2.2] at q; cases q⟩) (Z.two.imp fun _ p => ⟨p.1, fun _ q => by rw [p.2.2] at q; cases q⟩)
theorem zm_sep {z TI TO i1 i2 a b : Addr} (D : ZipApart z TI TO i1 i2 a b) : ZipSep2 z TI TO i1 i2 [i1, a] [i2, b] := by
  have D1 := D.i1z
  have D2 := D.i2z
  refine ⟨D.TIz, D.TOz, D.TITO, D.TIi1, by simp, ?_, ?_, D.TIi2, by simp, ?_, ?_, ?_, ?_⟩ <;> intro q <;> rcases List.mem_cons.mp q with q | q
  · exact D1 q.symm
  · exact D.l1z (List.mem_singleton.mp q).symm
  · exact D.TOi1 q
  · exact D.l1TO (List.mem_singleton.mp q).symm
  · exact D2 q.symm
  · exact D.l2z (List.mem_singleton.mp q).symm
  · exact D.TOi2 q
  · exact D.l2TO (List.mem_singleton.mp q).symm
  · exact D.i12 q
  · exact D.l2i1 (List.mem_singleton.mp q).symm
  · exact D.i12 q.symm
  · exact D.l1i2 (List.mem_singleton.mp q).symm
section
variable {prog : Program} {w : World} {A : Around} {E : Value → Shared → Prop} {s : Shared}
theorem zm_next {z TI TO i1 i2 a b : Addr} {k : Nat} {xs ys : Array Value} {x y : Value} {Q : Option Value → Shared → Prop} (hh : A.handled = none) (D : ZipApart z TI TO i1 i2 a b) (Z : ZmAt s.heap z TI TO i1 i2 a b k .none) (la : s.heap.IsTuple a xs) (lb : s.heap.IsList b ys) (hx : xs[k]? = some x) (hy : ys[k]? = some y)
    (hQ : ∀ g tk, ZmAt g z TI TO i1 i2 a b (k + 1) (rawInt s.heap.objs.size) → IsPair g s.heap.objs.size x y → (∀ c o, c ≠ z → c ≠ TO → c ≠ i1 → c ≠ i2 → s.heap.get? c = some o → g.get? c = some o) → Q (some (.ref s.heap.objs.size)) { s with heap := g, toks := tk }) :
    wpAny (model prog w) A (pyNext (.ref z)) Q E s := by
  obtain ⟨Zz, Zi, ⟨u, v, Zo⟩, Z1, Z2⟩ := Z
  have n1 : k < xs.size := (Array.getElem?_eq_some_iff.mp hx).1
  have n2 : k < ys.size := (Array.getElem?_eq_some_iff.mp hy).1
  refine wpAny_pyNext_zipD2_item (zm_sep D) (Draws.tuple (A := A.in1) hh i1 a D.l1i1 xs) (Draws.list (A := A.in1) hh i2 b D.l2i2 ys) Zz Zi Zo ⟨Z1, la⟩ ⟨Z2, lb⟩ n1 n2 fun x1 x2 g tk e1 e2 gz gp s1 s2 gt _ old => ?_
  have ex : x1 = x := Option.some.inj (e1.symm.trans hx)
  have ey : x2 = y := Option.some.inj (e2.symm.trans hy)
  subst ex ey
  exact hQ g tk ⟨gz, old _ _ D.TIz D.TITO D.TIi1 D.TIi2 Zi, ⟨_, _, gp⟩, s1.1, s2.1⟩ gt old
theorem zm_over {z TI TO i1 i2 a b : Addr} {k : Nat} {xs ys : Array Value} {Q : Option Value → Shared → Prop} (hh : A.handled = none) (D : ZipApart z TI TO i1 i2 a b) (Z : ZmAt s.heap z TI TO i1 i2 a b k .none) (la : s.heap.IsTuple a xs) (lb : s.heap.IsList b ys) (l1 : k ≤ xs.size) (l2 : k ≤ ys.size) (e : k = xs.size ∨ k = ys.size)
    (hQ : ∀ g tk, (∀ c o, c ≠ z → c ≠ TO → c ≠ i1 → c ≠ i2 → s.heap.get? c = some o → g.get? c = some o) → Q none { s with heap := g, toks := tk }) : wpAny (model prog w) A (pyNext (.ref z)) Q E s := by
  obtain ⟨Zz, Zi, ⟨u, v, Zo⟩, Z1, Z2⟩ := Z
  exact wpAny_pyNext_zipD2_end (zm_sep D) (Draws.tuple (A := A.in1) hh i1 a D.l1i1 xs) (Draws.list (A := A.in1) hh i2 b D.l2i2 ys) Zz Zi Zo ⟨Z1, la⟩ ⟨Z2, lb⟩ l1 l2 e fun g tk old => hQ g tk old
theorem zm_begins {a b : Addr} {xs ys : Array Value} {Q : Value → Shared → Prop} (la : s.heap.IsTuple a xs) (lb : s.heap.IsList b ys)
    (h : ∀ g, ZmAt g (s.heap.objs.size + 4) (s.heap.objs.size + 2) (s.heap.objs.size + 3) s.heap.objs.size (s.heap.objs.size + 1) a b 0 .none → (∀ c o, s.heap.get? c = some o → g.get? c = some o) → Q (.ref (s.heap.objs.size + 4)) { s with heap := g }) :
    wpAny (model prog w) A (call (.type "zip") [.ref a, .ref b]) Q E s := by
  refine callType_new PySem.F.called_zip (by decide) (PySem.F.typeCall_zip_2 _ _) (PySem.F.newCall_zip_2 _ _) (fun obj => PySem.F.args_object_init_3 obj _ _) PySem.F.entry_zip_new (zm_new a b xs ys) ⟨la, lb, ?_⟩
  obtain ⟨h1, e1⟩ : ∃ h1, h1 = s.heap.push (zmI1 a) := ⟨_, rfl⟩
  obtain ⟨h2, e2⟩ : ∃ h2, h2 = h1.push (zmI2 b) := ⟨_, rfl⟩
  obtain ⟨h3, e3⟩ : ∃ h3, h3 = h2.push (zmP (.ref s.heap.objs.size) (.ref (s.heap.objs.size + 1))) := ⟨_, rfl⟩
  obtain ⟨h4, e4⟩ : ∃ h4, h4 = h3.push (zmP .none .none) := ⟨_, rfl⟩
  have e5 : zmHeap s.heap a b = h4.push (zmO (s.heap.objs.size + 2) (s.heap.objs.size + 3)) := by rw [e4, e3, e2, e1]; rfl
  have n1 : h1.objs.size = s.heap.objs.size + 1 := by rw [e1, Heap.size_push]
  have n2 : h2.objs.size = s.heap.objs.size + 2 := by rw [e2, Heap.size_push, n1]
  have n3 : h3.objs.size = s.heap.objs.size + 3 := by rw [e3, Heap.size_push, n2]
  have n4 : h4.objs.size = s.heap.objs.size + 4 := by rw [e4, Heap.size_push, n3]
  have u5 : ∀ {c o}, h4.get? c = some o → (zmHeap s.heap a b).get? c = some o := fun q => by rw [e5]; exact Heap.get?_push_of_some _ q
  have u4 : ∀ {c o}, h3.get? c = some o → (zmHeap s.heap a b).get? c = some o := fun q => u5 (by rw [e4]; exact Heap.get?_push_of_some _ q)
  have u3 : ∀ {c o}, h2.get? c = some o → (zmHeap s.heap a b).get? c = some o := fun q => u4 (by rw [e3]; exact Heap.get?_push_of_some _ q)
  have u2 : ∀ {c o}, h1.get? c = some o → (zmHeap s.heap a b).get? c = some o := fun q => u3 (by rw [e2]; exact Heap.get?_push_of_some _ q)
  have g5 : (zmHeap s.heap a b).get? (s.heap.objs.size + 4) = some (zmO (s.heap.objs.size + 2) (s.heap.objs.size + 3)) := by rw [e5, ← n4]; exact Heap.get?_push_size _ rfl
  have g4 : (zmHeap s.heap a b).get? (s.heap.objs.size + 3) = some (zmP .none .none) := u5 (by rw [e4, ← n3]; exact Heap.get?_push_size _ rfl)
  have g3 : (zmHeap s.heap a b).get? (s.heap.objs.size + 2) = some (zmP (.ref s.heap.objs.size) (.ref (s.heap.objs.size + 1))) := u4 (by rw [e3, ← n2]; exact Heap.get?_push_size _ rfl)
  have g2 : (zmHeap s.heap a b).get? (s.heap.objs.size + 1) = some (zmI2 b) := u3 (by rw [e2, ← n1]; exact Heap.get?_push_size _ rfl)
  have g1 : (zmHeap s.heap a b).get? s.heap.objs.size = some (zmI1 a) := u2 (by rw [e1]; exact Heap.get?_push_size _ rfl)
  exact ⟨⟨_, g5, rfl⟩, h _ ⟨g5, g3, ⟨_, _, g4⟩, ⟨_, g1, rfl, rfl⟩, ⟨_, g2, rfl, rfl⟩⟩ fun c o q => u2 (by rw [e1]; exact Heap.get?_push_of_some _ q)⟩
end
def ItzM (K : PySem.W.Frag) (a b : Addr) : It :=
  ⟨fun i H => ∃ (xs ys : List V) (x y : V), SqT K H a xs ∧ SqL K H b ys ∧ xs[i]? = some x ∧ ys[i]? = some y,
    fun i H v H' => ∃ T x y, v = .ref T ∧ H T = none ∧ H' = upd H T (.tup [x, y]) ∧ (∀ xs, SqT K H a xs → xs[i]? = some x) ∧ ∀ ys, SqL K H b ys → ys[i]? = some y,
    fun i H => ∃ xs ys : List V, SqT K H a xs ∧ SqL K H b ys ∧ i ≤ xs.length ∧ i ≤ ys.length ∧ (i = xs.length ∨ i = ys.length)⟩
theorem turn_zm {P : Program} {w : World} {K : PySem.W.Frag} {elts : List Expr} {kk : Nat} {tpos : Pos} {a b z TI TO i1 i2 : Addr} (D : ZipApart z TI TO i1 i2 a b) :
    Turn P w K (.Tuple elts kk tpos) (ItzM K a b) [z, TI, TO, i1, i2] z (fun i h => ZmAt h z TI TO i1 i2 a b i .none) where
  mem := List.mem_cons_self
  obj := fun _ _ Z => Z.in_
  keep := fun _ _ _ Z k => Z.up k
  item := by
    rintro X rfl rfl rfl hc n pins s σ H E inv fp Z ⟨ls, rs, l, r, ql, qr, gl, gr⟩
    obtain ⟨vl, al, bl, _⟩ := inv.tuple ql
    obtain ⟨vr, ar, br, _⟩ := inv.list qr
    obtain ⟨ul, cl, dl⟩ := al.get gl
    obtain ⟨ur, cr, dr⟩ := ar.get gr
    have small := fun c hc => (Z.in_ c hc).elim fun _ e => Heap.lt_size e.1
    refine zm_next (inv.ok.hd hc) D Z bl br.isList (x := ul) (y := ur) (by simpa using cl) (by simpa using cr) fun g tk Zg pair old => ⟨_, rfl, ?_⟩
    refine wpAny_letOwnedTupleGo_zip (s := { s with heap := g, toks := tk }) Zg.zip fun g2 zg2 same => ?_
    have pair2 := (same.2 _ (Nat.ne_of_gt (small z List.mem_cons_self))).trans pair
    have Zg2 : ZmAt g2 z TI TO i1 i2 a b (n + 1) .none := by
      obtain ⟨_, Zi, ⟨u, v, Zo⟩, Z1, Z2⟩ := Zg
      exact ⟨zg2, (same.2 _ D.TIz).trans Zi, ⟨u, v, (same.2 _ D.TOz).trans Zo⟩, Z1.at fun o e => (same.2 _ D.i1z).trans e, Z2.at fun o e => (same.2 _ D.i2z).trans e⟩
    have inv2 := inv.turnedNew (T := s.heap.objs.size) (ob := .tup [l, r]) (h' := g2) (t' := tk) (ch := [z, TI, TO, i1, i2]) (fun c o out e => by
      simp only [List.mem_cons, List.not_mem_nil, or_false, not_or] at out
      exact (same.2 c out.1).trans (old c o out.1 out.2.2.1 out.2.2.2.1 out.2.2.2.2 e)) fp (Nat.le_refl _) ⟨(by decide : 2 ≤ sizeLine), [ul, ur], .cons dl (.cons dr .nil), _, pair2, rfl, _, rfl⟩
    exact ⟨.ref s.heap.objs.size, _, inv2, rfl, ⟨_, l, r, rfl, inv.hok.fresh (Nat.le_refl _), rfl, fun m hm => (by rw [inv.tuple_inj hm ql]; exact gl), fun m hm => (by rw [inv.list_inj hm qr]; exact gr)⟩, Zg2, fun c hc => by rw [upd_ne (Nat.ne_of_lt (small c hc))]; exact (fp c hc).1⟩
  done := by
    rintro X rfl rfl rfl hc n pins s σ H E inv fp Z ⟨ls, rs, ql, qr, n1, n2, n3⟩
    obtain ⟨vl, al, bl, _⟩ := inv.tuple ql
    obtain ⟨vr, ar, br, _⟩ := inv.list qr
    have el := al.length
    have er := ar.length
    refine zm_over (inv.ok.hd hc) D Z bl br.isList (by simp; omega) (by simp; omega) (by simp; omega) fun g tk old => ⟨rfl, inv.turnedL (t' := tk) (ch := [z, TI, TO, i1, i2]) (fun c o out e => ?_) fp⟩
    simp only [List.mem_cons, List.not_mem_nil, or_false, not_or] at out
    exact old c o out.1 out.2.2.1 out.2.2.2.1 out.2.2.2.2 e
  self := fun _ _ _ _ _ Z => wpAny_pyIter_zip Z.zip
def iZipM (K : PySem.W.Frag) (ta : TA) : TI := fun σ H R => ta σ H fun vs H1 => ∃ a b xs ys, vs = [.ref a, .ref b] ∧ SqT K H1 a xs ∧ SqL K H1 b ys ∧ R (ItzM K a b) H1
theorem pi_zm {X : Cx} {e e2 : Expr} {ta : TA} {p pos tpos : Pos} {elts : List Expr} {kk : Nat} (hg : Gl X "zip") (hm : X.mg "zip" = none) (ha : PA X [e, e2] ta)
    (hs : starEach [e, e2] X.env = (false, eval e X.env) :: starEach [e2] X.env := by rfl) (hpl : (backTo pos (starEach [e2] X.env)).any (·.1) = false := by rfl) :
    PI X (.Tuple elts kk tpos) (.Call (.Name "zip" p) [e, e2] [] pos) (iZipM X.K ta) := by
  refine ⟨fun pins s σ H R I h => ?_⟩
  refine Call_ (ld_blt I hg hm PyProof.Rows.boot_zip (PyProof.Rows.callWith_type1 (thn (ha.run pos pins s σ H _ I h) fun us s2 ⟨vs, H1, I2, r1, q1⟩ => ?_) hs hpl))
  obtain ⟨a, b, xs, ys, ex, hqx, hqy, q⟩ := q1
  subst ex
  cases r1 with
  | cons r rr =>
    cases rr with
    | cons r' rr =>
      cases rr
      cases r
      cases r'
      obtain ⟨its, rv, p1, _⟩ := I2.tuple hqx
      obtain ⟨its2, rv2, p2, _⟩ := I2.list hqy
      have la : a < s2.heap.objs.size := by
        obtain ⟨o1, ho1, _⟩ := id p1
        exact Heap.lt_size ho1
      have lb : b < s2.heap.objs.size := p2.lt
      refine zm_begins p1 p2.isList (s := s2) fun h' Z hk => wpAny_pyIter_zip Z.zip ?_
      have I3 := I2.kept (t' := s2.toks) hk
      refine ⟨s2.heap.objs.size + 4, [s2.heap.objs.size + 4, s2.heap.objs.size + 2, s2.heap.objs.size + 3, s2.heap.objs.size, s2.heap.objs.size + 1], _, _, _, rfl, I3, turn_zm (PySem.W.ktu_apart s2.heap.objs.size a b la lb), Z, fun c hcm => ?_, q⟩
      have hle : s2.heap.objs.size ≤ c := five (P := fun c => s2.heap.objs.size ≤ c) (Nat.le_add_right _ 4) (Nat.le_add_right _ 2) (Nat.le_add_right _ 3) (Nat.le_refl _) (Nat.le_add_right _ 1) c hcm
      exact I2.fpOk hle (I2.hok.fresh hle)
theorem gives_zm {K : PySem.W.Frag} {F : Hp} {a b : Addr} {vs ws : List V} {ds es : List PyData} (h1 : SqT K F a vs) (h2 : SqL K F b ws) (r1 : DpAll K F vs ds) (r2 : DpAll K F ws es) : Gives K F (ItzM K a b) (zipD ds es) := by
  unfold Gives
  have l0 : (zipD ds es).length = min vs.length ws.length := by rw [zipD_len, dps_len r1, dps_len r2]
  rw [l0]
  refine ⟨fun i H hi s => ?_, fun H s => ⟨vs, ws, sqT_up s h1, sqL_up s h2, by omega, by omega, by omega⟩, fun i H x H' hi s y => ⟨s, ?_⟩⟩
  · exact ⟨vs, ws, vs[i]'(by omega), ws[i]'(by omega), sqT_up s h1, sqL_up s h2, List.getElem?_eq_getElem (by omega), List.getElem?_eq_getElem (by omega)⟩
  · obtain ⟨T, p, q, e1, e2, e3, e4, e5⟩ := y
    obtain ⟨da, f1, f2⟩ := dps_getv r1 (e4 _ (sqT_up s h1))
    obtain ⟨db, g1, g2⟩ := dps_getv r2 (e5 _ (sqL_up s h2))
    exact ⟨_, zipD_get f1 g1, .inr ⟨T, p, q, da, db, e1, e2, e3, rfl, f2, g2⟩⟩
def zmK (Q : List PyData → MH → Prop) (x y : SV) (h2 : MH) : Prop := match fz1 x h2 with
  | some (.tuple ds, h3) => (match fz1 y h3 with
    | some (.list es, h4) => Q (zipD ds es) h4
    | _ => False)
  | _ => False
def wZipM (ta tb : DTE) : DTI := fun σ h Q => ta σ h fun x h1 => tb σ h1 fun y h2 => zmK Q x y h2
section
variable {X : Cx} {a b : Expr} {p pos tpos : Pos} {elts : List Expr} {kk : Nat} {ta tb : DTE}
theorem dw_zm (hg : Gl X "zip") (hm : X.mg "zip" = none) (ha : DE X Γ a ta) (hb : DE X Γ b tb) (hs : starEach [a, b] X.env = (false, eval a X.env) :: starEach [b] X.env := by rfl) (hs2 : starEach [b] X.env = (false, eval b X.env) :: starEach [] X.env := by rfl) (hpl : (backTo pos (starEach [b] X.env)).any (·.1) = false := by rfl) :
    DWk X Γ (.Tuple elts kk tpos) (.Call (.Name "zip" p) [a, b] [] pos) (wZipM ta tb) := by
  refine ⟨fun σ h Q Q' k w => ha.mono _ _ _ _ (fun x h1 w1 => hb.mono _ _ _ _ (fun y h2 w2 => ?_) w1) w, pi_imp (pi_zm hg hm (da_cons ha (da_cons hb da_nil hs2) hs).pa hs hpl) fun σ H R ⟨σd, h, rs, rm, w⟩ => ?_⟩
  · unfold zmK at w2 ⊢
    split at w2
    · split at w2
      · exact k _ _ w2
      · exact w2
    · exact w2
  · refine lift_mk (mono_cons ha.mono (mono_cons hb.mono fun _ _ _ _ k w => k _ _ w)) rs rm (C := fun xs h2 => ∃ x y, xs = [x, y] ∧ zmK (fun ds h4 => ∀ J H', PX Γ H h H' h4 → RM X.K Γ H' h4 → Gives X.K (Fz Γ H' h4) J ds → R J H') x y h2) (ha.mono _ _ _ _ (fun x h1 w1 => hb.mono _ _ _ _ (fun y h2 w2 => ⟨x, y, rfl, w2⟩) w1) w) fun xs h1 vs H1 px rs1 rvs rm1 w1 => ?_
    obtain ⟨x, y, rfl, w1⟩ := w1
    obtain ⟨v, u, rfl, rv, ru⟩ := rvs2 rvs
    unfold zmK at w1
    split at w1
    · rename_i ds h3 e1
      split at w1
      · rename_i es h4 e2
        obtain ⟨p1, r1, d1⟩ := fz1_ok rv rm1 e1
        obtain ⟨p2, r2, d2⟩ := fz1_ok (ru.up p1) r1 e2
        have d1' := dp_up p2.ex _ _ d1
        cases d1' with
        | @tup a1 vs1 _ s1 dd1 => cases d2 with
          | @lst a2 vs2 _ s2 dd2 => exact ⟨a1, a2, vs1, vs2, rfl, sqT_up fz_sub s1, sqL_up fz_sub s2, w1 _ _ ((px.trans p1).trans p2) r2 (gives_zm s1 s2 dd1 dd2)⟩
      · exact w1.elim
    · exact w1.elim
end
theorem e_zipM {ta tb : DTE} {σ : DSt} {h : MH} {QL : List PyData → MH → Prop} (k : ta σ h fun x h1 => tb σ h1 fun y h2 => zmK QL x y h2) : wZipM ta tb σ h QL := k
theorem k_zipM {h : MH} {QL : List PyData → MH → Prop} {ds es : List PyData} (k : QL (zipD ds es) h) : zmK QL (.d (.tuple ds)) (.d (.list es)) h := k
end DL

namespace DL
open PySem PySem.Spec PyProof.Rows L2
set_option autoImplicit true

section
variable {X : Cx} {pins : List (Addr × Obj)} {σ : L2.St} {H : Hp} {s : Shared} {a b : Addr} {A : Around} {E : Value → Shared → Prop}
theorem upd_call {kvs ms : List (Key × V)} {Q : Value → Shared → Prop} (I : Inv X pins σ H s) (ea : H a = some (.dK kvs)) (eb : H b = some (.dK ms)) (ne : a ≠ b) (l : kvs.length + ms.length ≤ sizeLine)
    (h : ∀ s', Inv X pins σ (upd H a (.dK (mergeK kvs ms))) s' → Q .none s') : wpAny (model X.prog X.w) A (call (.builtin "dict.update") [.ref a, .ref b]) Q E s := by
  obtain ⟨z1, q1, vs, r1, d1⟩ := dk_of I.hok ea
  obtain ⟨z2, q2, us, r2, d2⟩ := dk_of I.hok eb
  have l' : vs.length + us.length ≤ sizeLine := by rw [← r1.length, ← r2.length]; exact l
  have l3 : (mergeK kvs ms).length ≤ sizeLine := Nat.le_trans (length_mergeK ms kvs) l
  apply call_meetsIn PySem.F.slot_dict_update d1.typeIs PySem.F.entry_dict_update (PySem.F.args_dict_update_2 _ _) (meets_dict_update (mixKind X.prog X.w) a b ne q2)
  refine ⟨vs, us, d1, d2, l', fun h' e1 _ hs => h _ ?_⟩
  exact d_write I (by rw [ea]; exact trivial) hs (let ⟨q, _, _, hq, _⟩ := e1; ⟨q, hq⟩) (dk_new l3 q1 (r2.merge r1) e1)
end
def dDUpd (to te : DTE) : DTE := fun σ h Q => to σ h fun x h1 => match asDc h1 x with
  | some _ => te σ h1 fun y h2 => match asDc h2 x, asDc h2 y with
    | some p, some q => p.1 ≠ q.1 ∧ p.2.length + q.2.length ≤ sizeLine ∧ Q (.d .none) (mput h2 p.1 (.dct (mergeS p.2 q.2)))
    | _, _ => False
  | none => False
section
variable {X : Cx} {e o : Expr} {te to : DTE} {apos cpos : Pos}
theorem de_dupd (ho : DE X Γ o to) (he : DE X Γ e te) (m : M1 X o "update" apos e cpos) : DE X Γ (.Call (.Attribute o "update" apos) [e] [] cpos) (dDUpd to te) := by
  refine ⟨fun σ h Q Q' k w => ho.mono _ _ _ _ (fun x h1 w1 => ?_) w, ⟨fun pins s σ H Q I w => ?_⟩⟩
  · split at w1
    · exact he.mono _ _ _ _ (fun y h2 w2 => by
        split at w2
        · exact ⟨w2.1, w2.2.1, k _ _ w2.2.2⟩
        · exact w2) w1
    · exact w1
  obtain ⟨σd, h, rs, rm, w⟩ := w
  have first : liftV X.K Γ to σ H (fun v H1 => ∃ x h1, PX Γ H h H1 h1 ∧ RSt X.K Γ H1 h1 σd σ ∧ RV X.K Γ H1 h1 x v ∧ RM X.K Γ H1 h1 ∧ (match asDc h1 x with
    | some _ => te σd h1 fun y h2 => match asDc h2 x, asDc h2 y with
      | some p, some q => p.1 ≠ q.1 ∧ p.2.length + q.2.length ≤ sizeLine ∧ (fun r h' => ∀ v H', PX Γ H h H' h' → RV X.K Γ H' h' r v → RM X.K Γ H' h' → Q v H') (.d .none) (mput h2 p.1 (.dct (mergeS p.2 q.2)))
      | _, _ => False
    | none => False)) := lift_mk ho.mono rs rm w fun x h1 v H1 px rs1 rv rm1 w1 => ⟨x, h1, px, rs1, rv, rm1, w1⟩
  refine wpAny_Call_method m.base m.few m.line PySem.F.plainAttrs_dict PySem.F.slot_dict_update PySem.F.type_dict_update (thn (ho.pe.run pins s σ H _ I first) fun u s1 ⟨v, H1, I1, ru, x, h1, px, rs1, rv, rm1, w1⟩ => ?_)
  split at w1
  · rename_i p e1
    obtain ⟨e2, e3, kvs, e4, e5⟩ := dc_at rm1 rv e1
    subst e2
    obtain rfl : u = Value.ref p.1 := ru
    obtain ⟨t1, t2, _⟩ := isD_at I1 (a := p.1) (.inl ⟨kvs, .inl e4⟩)
    refine ⟨t1, t2, ?_⟩
    rw [m.trees]
    have snd : liftV X.K Γ te σ H1 (fun v2 H2 => ∃ y h2, PX Γ H1 h1 H2 h2 ∧ RV X.K Γ H2 h2 y v2 ∧ RM X.K Γ H2 h2 ∧ (match asDc h2 x, asDc h2 y with
      | some p, some q => p.1 ≠ q.1 ∧ p.2.length + q.2.length ≤ sizeLine ∧ (fun r h' => ∀ v H', PX Γ H h H' h' → RV X.K Γ H' h' r v → RM X.K Γ H' h' → Q v H') (.d .none) (mput h2 p.1 (.dct (mergeS p.2 q.2)))
      | _, _ => False)) := lift_mk he.mono rs1 rm1 w1 fun y h2 v2 H2 px2 rs2 ry rm2 w2 => ⟨y, h2, px2, ry, rm2, w2⟩
    refine Calls.callWith_builtin rfl (Calls.evalArgs_plain (Calls.spliced_cons (thn (he.pe.run pins s1 σ H1 _ I1 snd) fun iv s2 ⟨v2, H2, I2, rw2, y, h2, px2, ry, rm2, w2⟩ => Calls.spliced_nil ?_)))
    split at w2
    · rename_i p2 q2 f1 f2
      obtain ⟨g2, g3, ks1, g4, g5⟩ := dc_at rm2 (rv.up px2) f1
      obtain ⟨k2, k3, ks2, k4, k5⟩ := dc_at rm2 ry f2
      obtain ⟨n1, n2, w3⟩ := w2
      have ea : p.1 = p2.1 := V.ref.inj g2
      subst k2
      obtain rfl : iv = Value.ref q2.1 := rw2
      rw [ea]
      refine upd_call I2 g4 k4 n1 (by rw [← pairs_len g5, ← pairs_len k5]; exact n2) fun s3 I3 => ?_
      have px3 : PX Γ H2 h2 (upd H2 p2.1 (.dK (mergeK ks1 ks2))) (mput h2 p2.1 (.dct (mergeS p2.2 q2.2))) := put_px g3 rm2
      exact ⟨.non, _, I3, rfl, w3 .non _ ((px.trans px2).trans px3) rv_non (put_rmG g3 rm2 (show Paired _ _ _ from mergeS_ok k5 g5))⟩
    · exact w2.elim
  · exact w1.elim
end
end DL

namespace DL
open PySem PySem.Spec PyProof.Rows L2
set_option autoImplicit true

/-- a caught exception at a, at rest in the heap g: what is known while clauses are tried -/
structure Rest (X : Cx) (pins : List (Addr × Obj)) (a : Addr) (B : Heap) (sI : Shared) (σ' : L2.St) (H' : Hp) (cls : Value) (d : Option Addr) (s' : Shared) (g : Heap) : Prop where
  J : Inv X pins σ' H' sI
  nb : ∀ b o, sI.heap.get? b = some o → b ∉ frs X.stack → B.get? b = some o
  up : sI.heap.UpToSlots g
  fl : HandSPX.FlyingZ B (X.env :: X.outer) a (Zc cls d) g
  na : H' a = none
  os : s'.os = sI.os
  ag : AllBare s'.gens
section
variable {X : Cx} {pins : List (Addr × Obj)} {a : Addr} {B : Heap} {sI s' : Shared} {σ' : L2.St} {H' : Hp} {cls : Value} {d : Option Addr} {g : Heap}
theorem Rest.inv (R : Rest X pins a B sI σ' H' cls d s' g) : Inv X pins σ' H' { s' with heap := g } := R.J.landed (s' := { s' with heap := g }) R.nb R.fl.1 R.up R.os R.ag
theorem Rest.apart (R : Rest X pins a B sI σ' H' cls d s' g) (hf : X.env.frame = some X.env.locals) {oe : Obj} {vs : Array Value} (e : g.get? a = some oe) (ed : oe.data = .fields vs) : a ≠ X.env.locals ∧ a ∉ X.fs := by
  have no : a ∉ frs (X.env :: X.outer) := fun m => by
    obtain ⟨_, o2, e2, n2⟩ := R.fl.2.2.1.mem m
    rw [e] at e2
    cases e2
    exact n2 _ ed
  refine ⟨fun z => no (List.mem_filterMap.mpr ⟨X.env, List.mem_cons_self, by rw [hf, z]⟩), fun m => ?_⟩
  obtain ⟨v, hv, q⟩ := List.mem_filterMap.mp m
  exact no (List.mem_filterMap.mpr ⟨v, List.mem_cons_of_mem _ hv, q⟩)
/-- no clause takes it: on it goes -/
theorem Rest.on {Wout : WX} {D : Ends} (R : Rest X pins a B sI σ' H' cls d s' g) (hs : X.stack = X.env :: X.outer) (hf : X.env.frame = some X.env.locals) (tk : Takes X Wout) (w : Wout cls d σ' H') :
    wpAny (model X.prog X.w) X.A (handleBy (.ref a) X.env []) (SP X pins D) X.xe { s' with heap := g } := by
  apply wpAny_handleBy_nil
  obtain ⟨_, _, _, oe, vs, T, _, _, ea, _, ed, ev, _⟩ := id R.fl
  unfold PySem.passOn
  refine wpAny_bind (wpAny_field ea ed ev ?_)
  rw [if_neg (show ¬ ((Value.ref T == Value.none) = true) by simp)]
  have last : wpAny (model X.prog X.w) X.A (setFlight (.ref a) X.env.frame) (fun _ z => wpAny (model X.prog X.w) X.A (throw (.ref a) : Sem Flow) (SP X pins D) X.xe z) X.xe { s' with heap := g } := by
    rw [hf]
    apply HandSPX.setFlight_upZ (s := { s' with heap := g }) R.fl
    intro k held rise
    apply wpAny_throw
    exact tk _ _ ⟨a, B, sI, pins, σ', H', cls, d, rfl, R.J, R.nb, R.up.trans rise, .inr (.inr (by rw [hs]; exact held)), R.na, R.os, R.ag, w⟩
  first
    | exact wpAny_bind (wpAny_pure (wpAny_bind last))
    | exact wpAny_bind last
/-- its suite -/
theorem Rest.suite {D : Ends} {n : Str} {i : Nat} {b₀ : Stmt} {body : List Stmt} {pos' : Pos} {ts : TS} (R : Rest X pins a B sI σ' H' cls d s' g) (hf : X.env.frame = some X.env.locals) (hN : X.N.Nodup) (hi : X.N[i]? = some n) (hln : X.env.kindOf n = some .local)
    (run : ∀ (oe : Obj) (pn : List (Addr × Obj)), Zc cls d oe → (∃ vs, oe.data = .fields vs) → PSs (X.suite a ((a, oe) :: pn)) (b₀ :: body) ts)
    (w : ts { nx := fun σ2 H2 => D.nx (σ2.set i none) H2, rt := D.rt, bk := fun σ2 H2 => D.bk (σ2.set i none) H2, ct := fun σ2 H2 => D.ct (σ2.set i none) H2 } (σ'.set i (some (.ref a))) H') {rest : List ExceptHandler} {E : Expr} :
    ∀ {Q : Prop}, ((∀ (k : Heap), Rest X pins a B sI σ' H' cls d s' k → ∃ oe, (∃ vs, oe.data = .fields vs) ∧ Zc cls d oe ∧ Inv (X.suite a ((a, oe) :: (X.pn ++ pins))) [] σ' H' { s' with heap := k }) → Q) → Q := by
  intro Q k
  refine k fun g2 R2 => ?_
  obtain ⟨oe, vs, ea, hz, ed⟩ := R2.fl.there
  obtain ⟨n1, n2⟩ := R2.apart hf ea ed
  exact ⟨oe, ⟨vs, ed⟩, hz, R2.inv.suite ea ed R2.na n1 n2⟩
end
section
variable {X : Cx} {pins : List (Addr × Obj)} {a : Addr} {B : Heap} {sI s' : Shared} {σ' : L2.St} {H' : Hp} {cls : Value} {d : Option Addr} {g : Heap}
end
section
variable {X : Cx} {x1 x2 m1 m2 : Str} {c1 c2 : Value} {body s1 s2 : List Stmt} {b1 b2 : Stmt} {np1 np2 pos p1 p2 : Pos} {kt : Str → Str → Option Bool} {tb : DXS → DTS} {t1 t2 : Addr → DExc → DTS} {Eo : DXS}
/-- a suite, told of an exception in the deep reading -/
theorem suite_lift {Γ Γ2 : GI} {i : Nat} {ts : Addr → DExc → DTS} (ms : ∀ a y, MonoS (ts a y)) {D : Ends} {H H' : Hp} {h h' : MH} {σ' : L2.St} {σd' : DSt} {y : DExc} {cls : Value} {d : Option Addr} {a : Addr} (e2 : Γ2 = Γ.at H h) (rs' : RSt X.K Γ2 H' h' σd' σ') (rm' : RM X.K Γ2 H' h') (rx : RX X.K Γ2 H' h' y cls d)
    (w : ts a y (clrN i (liftE X.K Γ H h D)) (σd'.set i (some (.own a))) h') :
    liftS X.K (Γ2.exc X.K y cls d) (ts a y) { nx := fun σ2 H2 => D.nx (σ2.set i none) H2, rt := D.rt, bk := fun σ2 H2 => D.bk (σ2.set i none) H2, ct := fun σ2 H2 => D.ct (σ2.set i none) H2 } (σ'.set i (some (.ref a))) H' := by
  subst e2
  refine ⟨σd'.set i (some (.own a)), h', ?_, ⟨rm'.ob, ⟨rm'.g, rx⟩, rm'.nx, rm'.tb⟩, ms _ _ _ _ _ _ ?_ w⟩
  · exact RSt.set (Γ := Γ) (x := .own a) (v := .ref a) rs' rfl
  · exact ⟨fun _ _ z _ H2 _ rs2 rm2 => z _ H2 rm2.g.1.2 (RSt.clr (Γ := Γ) rs2 none) rm2.unE.un, fun _ _ z v H2 _ rv2 rm2 => z v H2 rm2.g.1.2 rv2 rm2.unE.un, fun _ _ z _ H2 _ rs2 rm2 => z _ H2 rm2.g.1.2 (RSt.clr (Γ := Γ) rs2 none) rm2.unE.un, fun _ _ z _ H2 _ rs2 rm2 => z _ H2 rm2.g.1.2 (RSt.clr (Γ := Γ) rs2 none) rm2.unE.un⟩
end
end DL

namespace DL
open PySem PySem.Spec PyProof.Rows L2
set_option autoImplicit true

/-- what a lambda does: from a heap to an answer, or to an error -/
abbrev DLm := MH → DK → DXK → Prop
/-- a() in the def that got it, f being what stands in its slot -/
def dCallL (i : Nat) (f : Addr) (L : DLm) (Ed : DXS) : DTE := fun σ h Q => slot σ i = some (.own f) ∧ L h Q fun x h2 => Ed x σ h2
/-- a() is understood wherever the def stands -/
def LAct (Z : Cx) (Γ : GI) (a : Str) (f : Addr) (L : DLm) : Prop := ∀ (pn : List (Addr × Obj)) (xe : Value → Shared → Prop) (Γ1 : GI) (Ed : DXS) (p1 p2 : Pos), Γ1.T = Γ.T → Γ1.x = Γ.x → (∀ H h, Γ1.G H h → Γ.G H h) → Takes (Z.tr pn xe) (liftX Z.K Γ1 Ed) →
  DE (Z.tr pn xe) Γ1 (.Call (.Name a p1) [] [] p2) (dCallL 0 f L Ed)
section
variable {P : Program} {w : World} {K : PySem.W.Frag} {mg : Str → Option Value} {base : Heap}
end
section
variable {X : Cx} {pins : List (Addr × Obj)} {σ : L2.St} {H1 : Hp} {s1 : Shared} {h1 : MH} {σd : DSt}
end
/-- a def that gets a lambda, by its name -/
def FnL (P : Program) (w : World) (K : PySem.W.Frag) (mg : Str → Option Value) (base : Heap) (T : List (Addr × Str)) (k : Nat) (x a : Str) (N : List Str) (t : Addr → DLm → DXS → DTS) : Prop :=
  ∃ (g : Addr) (fd : FuncData) (st : Stmt), Fun K x x st g fd ∧ FnScope N [a] (defScope st) ∧ PySem.W.keepIn K (.ref g) = true ∧ Binds K fd [a] [] ∧ mg x = some (.ref g) ∧ N[0]? = some a ∧ Vis (defScope st) a ∧ (a == ("__debug__" : Str)) = false ∧ (a == ("__classdict__" : Str)) = false ∧
  ∀ (cdv : Value) (A : Around) (outer : List Env) (s : Shared) (H : Hp) (E' : XK) (Γ : GI) (Ed : DXS) (f : Addr) (L : DLm), fd.code = cdv → Γ.T = T → Room k (A.deeper (envOfC x (defScope st) s.heap.objs.size g cdv)) → A.guards = some [] →
    Takes (cxOf (L2.CX P w) P w K mg base N x (defScope st) g cdv A outer s H E') (liftX K Γ Ed) → LAct (cxOf (L2.CX P w) P w K mg base N x (defScope st) g cdv A outer s H E') Γ a f L → DSs (cxOf (L2.CX P w) P w K mg base N x (defScope st) g cdv A outer s H E') Γ (defBody st) (t f L Ed)
theorem FnL.up {P : Program} {w : World} {K : PySem.W.Frag} {mg : Str → Option Value} {base : Heap} {T : List (Addr × Str)} {j k : Nat} {x a : Str} {N : List Str} {t : Addr → DLm → DXS → DTS} (F : FnL P w K mg base T j x a N t) (h : j ≤ k) : FnL P w K mg base T k x a N t := by
  obtain ⟨g, fd, st, f1, f2, f3, f4, f5, f6, f7, f8, f9, f10⟩ := F
  exact ⟨g, fd, st, f1, f2, f3, f4, f5, f6, f7, f8, f9, fun cdv A outer s H E' Γ Ed f L e1 e2 hr => f10 cdv A outer s H E' Γ Ed f L e1 e2 (hr.mono h)⟩
end DL

namespace DL
open PySem PySem.Spec PyProof.Rows L2
set_option autoImplicit true
/-- a clause's test answers whether the caught one is of its classes -/
def TestT (X : Cx) (tst : Expr) (ex : Value → Option Bool) : Prop := ∀ (a : Addr) (oe : Obj) (pn : List (Addr × Obj)) (σ : L2.St) (H : Hp) (s : Shared) (cls : Value) (b : Bool), Inv (X.suite a ((a, oe) :: pn)) [] σ H s → X.K.In s.heap →
  PySem.W.Looks (model X.prog X.w) s.heap (typeOf (.ref a)) cls → ex cls = some b → ∀ (A2 : Around) (Q : Bool → Shared → Prop) (E E2 : Value → Shared → Prop), (∀ h', (∀ q o, s.heap.get? q = some o → h'.get? q = some o) → Q b { s with heap := h' }) →
    wpAny (model X.prog X.w) (X.A.mark (some (.ref a))) (eval tst X.env) (fun c s1 => wpAny (model X.prog X.w) A2 (excMatches (.ref a) c) Q E2 s1) E s
section
variable {X : Cx} {tst : Expr} {ex : Value → Option Bool} {body suite : List Stmt} {b₀ : Stmt} {pos pos' : Pos} {tb : WX → TS} {ts : Addr → Value → Option Addr → TS} {Wout : WX}
end
/-- which of the classes: all known -/
def manyK (kt : Str → Str → Option Bool) (c : Str) : List Str → Option Bool
  | [] => some false
  | n :: r => match kt c n, manyK kt c r with
    | some a, some b => some (a || b)
    | _, _ => none
section
variable {X : Cx} {x1 x2 x3 x4 : Str} {c1 c2 c3 c4 : Value} {p1 p2 p3 p4 pt : Pos} {kt' : Nat}
end
section
variable {X : Cx} {tst : Expr} {cs : List Value} {ns : List Str} {body suite : List Stmt} {b₀ : Stmt} {pos pos' : Pos} {kt : Str → Str → Option Bool} {tb : DXS → DTS} {ts : Addr → DExc → DTS} {Eo : DXS}
end
end DL

namespace DL
open PySem PySem.Spec PyProof.Rows L2
set_option autoImplicit true
def wCls (Wout : WX) (D : Ends) : List Cls0 → WX
  | [] => Wout
  | c :: l => fun cls d σ H => ∃ b, c.ex cls = some b ∧ (b = true → ∀ a, H a = none → c.run D a cls d σ H) ∧ (b = false → wCls Wout D l cls d σ H)
def NmOk (X : Cx) (n : Option Str) (i : Option Nat) : Prop := match n, i with
  | some n, some i => X.N[i]? = some n ∧ X.env.kindOf n = some .local
  | none, none => True
  | _, _ => False
inductive HdsC (X : Cx) : List ExceptHandler → List Cls0 → Prop
  | nil : HdsC X [] []
  | cons {tst : Expr} {n : Option Str} {c : Cls0} {b₀ : Stmt} {body : List Stmt} {pos' : Pos} {hds : List ExceptHandler} {l : List Cls0} (ht : TestT X tst c.ex) (hn : NmOk X n c.nm)
      (run : ∀ (a : Addr) (oe : Obj) (cls : Value) (d : Option Addr) (pn : List (Addr × Obj)), Zc cls d oe → (∃ vs, oe.data = .fields vs) → PSs (X.suite a ((a, oe) :: pn)) (b₀ :: body) (c.ts a cls d)) (r : HdsC X hds l) : HdsC X (.ExceptHandler (some tst) n (b₀ :: body) pos' :: hds) (c :: l)
section
variable {X : Cx} {pins : List (Addr × Obj)} {a : Addr} {B : Heap} {sI s' : Shared} {σ' : L2.St} {H' : Hp} {cls : Value} {d : Option Addr} {g : Heap}
end
def dWasL (kt : Str → Str → Option Bool) (Eo : DXS) (D : DEnds) : List DCl → DXS
  | [] => Eo
  | c :: l => fun y σ h => ∃ b, manyK kt y.cls c.ns = some b ∧ (b = true → ∀ a, h a = none → c.run D a y σ h) ∧ (b = false → dWasL kt Eo D l y σ h)
section
variable {X : Cx} {Γ : GI} {kt : Str → Str → Option Bool} {tb : DXS → DTS} {Eo : DXS}
/-- clauses and their deep readings -/
inductive DHds (X : Cx) (Γ : GI) (kt : Str → Str → Option Bool) : List ExceptHandler → List DCl → Prop
  | nil : DHds X Γ kt [] []
  | cons {tst : Expr} {n : Option Str} {c : DCl} {ex : Value → Option Bool} {b₀ : Stmt} {body : List Stmt} {pos' : Pos} {hds : List ExceptHandler} {l : List DCl} (ht : TestT X tst ex) (hk : ∀ c1 b, manyK kt c1 c.ns = some b → ex (.ref (He.ga X.K c1)) = some b) (hn : NmOk X n c.nm)
      (run : ∀ (Γ1 : GI), Γ1.T = Γ.T → ∀ (a : Addr) (oe : Obj) (y : DExc) (d : Option Addr) (pn : List (Addr × Obj)), Zc (.ref (He.ga X.K y.cls)) d oe → (∃ vs, oe.data = .fields vs) → DSs (X.suite a ((a, oe) :: pn)) (Γ1.exc X.K y (.ref (He.ga X.K y.cls)) d) (b₀ :: body) (c.ts a y))
      (r : DHds X Γ kt hds l) : DHds X Γ kt (.ExceptHandler (some tst) n (b₀ :: body) pos' :: hds) (c :: l)
/-- a suite without a name, told of an exception in the deep reading -/
theorem suite_lift0 {Γ2 : GI} {ts : Addr → DExc → DTS} (ms : ∀ a y, MonoS (ts a y)) {D : Ends} {H H' : Hp} {h h' : MH} {σ' : L2.St} {σd' : DSt} {y : DExc} {cls : Value} {d : Option Addr} {a : Addr} (e2 : Γ2 = Γ.at H h) (rs' : RSt X.K Γ2 H' h' σd' σ') (rm' : RM X.K Γ2 H' h') (rx : RX X.K Γ2 H' h' y cls d)
    (w : ts a y (liftE X.K Γ H h D) σd' h') : liftS X.K (Γ2.exc X.K y cls d) (ts a y) D σ' H' := by
  subst e2
  refine ⟨σd', h', rs', ⟨rm'.ob, ⟨rm'.g, rx⟩, rm'.nx, rm'.tb⟩, ms _ _ _ _ _ _ ?_ w⟩
  exact ⟨fun _ _ z _ H2 _ rs2 rm2 => z _ H2 rm2.g.1.2 rs2 rm2.unE.un, fun _ _ z v H2 _ rv2 rm2 => z v H2 rm2.g.1.2 rv2 rm2.unE.un, fun _ _ z _ H2 _ rs2 rm2 => z _ H2 rm2.g.1.2 rs2 rm2.unE.un, fun _ _ z _ H2 _ rs2 rm2 => z _ H2 rm2.g.1.2 rs2 rm2.unE.un⟩
def clsUp (X : Cx) (Γ : GI) (c : DCl) (ex : Value → Option Bool) : Cls0 := ⟨ex, c.nm, fun a cls d D σ H => ∃ (Γ1 : GI) (y : DExc), Γ1.T = Γ.T ∧ cls = .ref (He.ga X.K y.cls) ∧ liftS X.K (Γ1.exc X.K y cls d) (c.ts a y) D σ H⟩
theorem DHds.up {hds : List ExceptHandler} {l : List DCl} (hh : DHds X Γ kt hds l) : ∃ l0 : List Cls0, HdsC X hds l0 ∧
    ∀ (D : Ends) (H : Hp) (h : MH) (y : DExc) (cls : Value) (d : Option Addr) (σ' : L2.St) (H' : Hp) (σd' : DSt) (h' : MH), RSt X.K (Γ.at H h) H' h' σd' σ' → RM X.K (Γ.at H h) H' h' → RX X.K (Γ.at H h) H' h' y cls d →
      dWasL kt Eo (liftE X.K Γ H h D) l y σd' h' → wCls (liftX X.K Γ Eo) D l0 cls d σ' H' := by
  induction hh with
  | nil => exact ⟨[], .nil, fun D H h y cls d σ' H' σd' h' rs rm rx w => ⟨y, σd', h', rs, rm.un, rx, w⟩⟩
  | @cons tst n c ex b₀ body pos' hds l ht hk hn run r ih =>
    obtain ⟨l0, a1, a2⟩ := ih
    refine ⟨clsUp X Γ c ex :: l0, .cons (c := clsUp X Γ c ex) ht hn (fun a oe cls d pn hz hfl => ⟨fun pins s σ H D I ⟨Γ1, y, hT, ec, w⟩ => by subst ec; exact (run Γ1 hT a oe y d pn hz hfl).ps.run pins s σ H D I w⟩) a1, ?_⟩
    intro D H h y cls d σ' H' σd' h' rs rm rx ⟨b, hb, yes, no⟩
    have mono : ∀ a y, MonoS (c.ts a y) := fun a y => (run Γ rfl a { cls := .ref (He.ga X.K y.cls), dict := none, data := .fields #[] } y none [] ⟨rfl, rfl⟩ ⟨_, rfl⟩).mono
    refine ⟨b, by rw [rx.1]; exact hk _ _ hb, fun q a na => ?_, fun q => a2 D H h y cls d σ' H' σd' h' rs rm rx (no q)⟩
    have w := yes q a (rm.tracked na)
    obtain ⟨cns, cnm, cts⟩ := c
    unfold DCl.run at w
    unfold Cls0.run
    cases cnm with
    | none => exact ⟨Γ.at H h, y, rfl, rx.1, suite_lift0 mono rfl rs rm rx w⟩
    | some i => exact ⟨Γ.at H h, y, rfl, rx.1, suite_lift mono rfl rs rm rx w⟩
end
section
variable {X : Cx} {x1 x2 x3 x4 x5 : Str} {c1 c2 c3 c4 c5 : Value} {p1 p2 p3 p4 p5 pt : Pos} {kt' : Nat}
end
end DL

namespace DL
open PySem PySem.Spec PyProof.Rows L2
set_option autoImplicit true

section
variable {prog : Program} {w : World} {A : Around} {E : Value → Shared → Prop} {s : Shared} {p q : Bool}
structure ZuAt (p q : Bool) (h : Heap) (z TI TO i1 i2 a b : Addr) (k : Nat) (f0 : Value) : Prop where
  zip : ZipS h z TI TO f0
  its : IsPair h TI (.ref i1) (.ref i2)
  out : ∃ x y, IsPair h TO x y
  one : isI p h i1 a k
  two : isI q h i2 b k
end

theorem ZuAt.up {p q : Bool} {g g' : Heap} {z TI TO i1 i2 a b : Addr} {n : Nat} {f0 : Value} (Z : ZuAt p q g z TI TO i1 i2 a b n f0) (k : ∀ c, c ∈ [z, TI, TO, i1, i2] → ∀ o, g.get? c = some o → g'.get? c = some o) : ZuAt p q g' z TI TO i1 i2 a b n f0 :=
  ⟨k _ (by simp) _ Z.zip, k _ (by simp) _ Z.its, Z.out.imp fun _ => Exists.imp fun _ => k _ (by simp) _, Z.one.at fun o => k _ (by simp) o, Z.two.at fun o => k _ (by simp) o⟩
section
variable {X : Cx} {a b : Expr} {p pos tpos kpos cp : Pos} {elts : List Expr} {kk ck : Nat} {ta tb : DTE}
end
section
variable {X : Cx} {a b c e : Expr} {p pos p2 tpos kpos cp : Pos} {kk ck : Nat} {ta tb tc te : DTE} {elts : List Expr}
end
section
variable {σ : DSt} {h : MH} {i1 i2 : Nat} {ta tb te : DTE} {tt : DTT} {vs : List Nat} {Q : DK} {QS : List SV → MH → Prop}
end
end DL

namespace DL
open PySem PySem.Spec PyProof.Rows L2
set_option autoImplicit true

section
variable {P : Program} {w : World} {A : Around} {E : Value → Shared → Prop} {s s' : Shared} {h h' h0 : Heap} {a S : Addr} {L ks : List (Addr × List Int)} {es : Array (Int × Value)} {ep i : Nat} {t : SetTable} {p : Addr × List Int}
theorem SetB.wide (R : SetB P w h a L es ep t) (l : 63 ≤ L.length) : t.mask = 127 := by
  have z := R.room
  rcases R.tab.mok with e | e | e
  · omega
  · omega
  · exact e
end
section
variable {P : Program} {w : World} {A : Around} {E : Value → Shared → Prop} {s : Shared}
end
section
variable {X : Cx} {a : Expr} {ta : TE}
end
section
variable {X : Cx} {Γ : GI} {a : Expr} {pos p2 : Pos}
end
end DL

namespace DL
open PySem PySem.Spec PyProof.Rows L2
set_option autoImplicit true

theorem dicW_keys {K : PySem.W.Frag} {a : Addr} {l : List (Option (Str × Int))} (h : He.dicW K a = some l) : ∃ c od es n sl, K.lookup a = some ⟨c, od, .dict es n, sl⟩ ∧ es.toList.map He.keyOf = l := by
  unfold He.dicW at h
  split at h
  · rename_i c es n sl q
    split at h
    · exact ⟨_, _, es, n, sl, q, Option.some.inj h⟩
    · cases h
  · cases h
theorem keys_find {P : Params} {x : Str} : ∀ {l : List DictEntry} {ks : List Str}, l.map He.keyOf = He.keysIn P ks → (x ∈ ks → ∃ e, l.find? (fun d => d.key.isStr x) = some e) ∧ (x ∉ ks → l.find? (fun d => d.key.isStr x) = none) ∧ l.any (fun d => d.refKey) = false
  | [], [], _ => ⟨fun z => (by cases z), fun _ => rfl, rfl⟩
  | [], k :: ks, h => by cases h
  | e :: r, [], h => by cases h
  | e :: r, k :: ks, h => by
    have h1 : He.keyOf e :: r.map He.keyOf = some (k, PyData.keyHash P k) :: He.keysIn P ks := h
    injection h1 with h2 h3
    obtain ⟨i1, i2, i3⟩ := keys_find (x := x) h3
    have ek : ∃ t, e.key = .str k t := by
      unfold He.keyOf at h2
      split at h2
      · rename_i y t q
        have h4 := Option.some.inj h2
        exact ⟨t, by rw [q, (Prod.mk.inj h4).1]⟩
      · cases h2
    obtain ⟨t, ek⟩ := ek
    have es : e.key.isStr x = decide (k = x) := by
      rw [ek]
      rfl
    have er : e.refKey = false := by
      unfold DictEntry.refKey
      rw [ek]
    rw [List.find?_cons, List.any_cons, er, i3, es]
    by_cases q : k = x
    · rw [decide_eq_true q]
      exact ⟨fun _ => ⟨e, rfl⟩, fun n => absurd (by rw [q]; exact List.mem_cons_self) n, rfl⟩
    · rw [decide_eq_false q]
      refine ⟨fun m => ?_, fun n => i2 fun z => n (List.mem_cons_of_mem _ z), rfl⟩
      rcases List.mem_cons.mp m with z | z
      · exact absurd z.symm q
      · exact i1 z
theorem dicW_ns {K : PySem.W.Frag} {P : Params} {a : Addr} {ks : List Str} (h : He.dicW K a = some (He.keysIn P ks)) (x : Str) : ∃ r, PySem.W.nsIn K a x = some r ∧ r.isSome = ks.contains x := by
  obtain ⟨c, od, es, n, sl, e1, e2⟩ := dicW_keys h
  obtain ⟨i1, i2, i3⟩ := keys_find (x := x) e2
  unfold PySem.W.nsIn
  rw [e1]
  dsimp only
  by_cases m : x ∈ ks
  · obtain ⟨e, he⟩ := i1 m
    rw [he]
    exact ⟨_, rfl, (List.contains_iff_mem.mpr m).symm⟩
  · rw [i2 m]
    dsimp only
    rw [i3]
    exact ⟨none, rfl, by
      cases q : ks.contains x with
      | false => rfl
      | true => exact absurd (List.contains_iff_mem.mp q) m⟩
/-- a table's keys -/
structure GTab (K : PySem.W.Frag) (w : World) (mg : Str → Option Value) (T : Str) (ks : List Str) : Prop where
  glo : mg T = some (.ref (He.ga K T))
  dic : He.dicW K (He.ga K T) = some (He.keysIn w.params ks)
theorem tupAtB_ok {K : PySem.W.Frag} {a : Addr} {zs : List Str} (h : tupAtB K a zs = true) (H : Hp) : SqT K H a (zs.map V.str) := by
  unfold tupAtB at h
  split at h
  · rename_i c od its m sl q
    obtain ⟨h1, h2⟩ := He.ba h
    obtain ⟨h3, h4⟩ := He.ba h2
    obtain rfl : c = "tuple" := of_decide_eq_true h1
    exact .inr ⟨_, its, m, q, rfl, rfl, of_decide_eq_true h3, He.relAll_ok h4⟩
  · cases h
theorem tabDB_ok {K : PySem.W.Frag} {a : Addr} {tb : List (Str × List Str)} (h : tabDB K a tb = true) {q : Str × List Str} (hq : q ∈ tb) (H : Hp) : ∃ b, PySem.W.nsIn K a q.1 = some (some (.ref b)) ∧ SqT K H b (q.2.map V.str) := by
  have h2 := List.all_eq_true.mp h q hq
  split at h2
  · rename_i b e
    exact ⟨b, e, tupAtB_ok h2 H⟩
  · cases h2
theorem lookup_mem {α : Type} {k : Str} {v : α} : ∀ {l : List (Str × α)}, l.lookup k = some v → (k, v) ∈ l
  | [], h => by cases h
  | (a, b) :: r, h => by
    rw [List.lookup_cons] at h
    cases e : (k == a) with
    | true =>
      rw [e] at h
      cases h
      rw [beq_iff_eq.mp e]
      exact List.mem_cons_self
    | false =>
      rw [e] at h
      exact List.mem_cons_of_mem _ (lookup_mem h)
theorem lookup_ne {α : Type} {p : Str × α} : ∀ {l : List (Str × α)}, p ∈ l → l.lookup p.1 ≠ none
  | q :: r, hp => by
    rw [List.lookup_cons]
    cases e : (p.1 == q.1) with
    | true => exact fun z => by cases z
    | false =>
      rcases List.mem_cons.mp hp with z | z
      · rw [z, beq_self_eq_true] at e; cases e
      · exact lookup_ne z
/-- a table of functions -/
structure GTabF (K : PySem.W.Frag) (w : World) (mg : Str → Option Value) (T : Str) (tb : List (Str × Str)) : Prop where
  tab : GTab K w mg T (tb.map (·.1))
  val : He.valsB K (He.ga K T) (tb.map fun q => (q.1, He.Dv.glo q.2)) = true
/-- a table of tuples of texts -/
structure GTabD (K : PySem.W.Frag) (w : World) (mg : Str → Option Value) (T : Str) (tb : List (Str × List Str)) : Prop where
  tab : GTab K w mg T (tb.map (·.1))
  val : tabDB K (He.ga K T) tb = true
/-- a module's name whose value is no data -/
def dFn (fa : Str → Addr) (x : Str) : DTE := fun _ h Q => Q (.own (fa x)) h
theorem e_fn {fa : Str → Addr} {x : Str} {σ : DSt} {h : MH} {Q : DK} (k : Q (.own (fa x)) h) : dFn fa x σ h Q := k
def rdTabF (fa : Str → Addr) (T : Str) (tb : List (Str × Str)) : DR2 := fun x y h Q => match y with
  | .d (.str k) => x = .own (fa T) ∧ (match tb.lookup k with
    | some f => Q (.own (fa f)) h
    | none => False)
  | _ => False
def rdTabD (fa : Str → Addr) (T : Str) (tb : List (Str × List Str)) : DR2 := fun x y h Q => match y with
  | .d (.str k) => x = .own (fa T) ∧ (match tb.lookup k with
    | some zs => Q (.d (.tuple (zs.map PyData.str))) h
    | none => False)
  | _ => False
def rdInTab (fa : Str → Addr) (T : Str) (no : Bool) (ks : List Str) : DR2 := fun x y h Q => match x with
  | .d (.str k) => y = .own (fa T) ∧ Q (.d (.bool (no ^^ ks.contains k))) h
  | _ => False
def tgK (fa : Str → Addr) (tb : List (Str × Str)) (Q : DK) (y z : SV) (h3 : MH) : Prop := match y with
  | .d (.str k) => (match tb.lookup k with
    | some f => Q (.own (fa f)) h3
    | none => Q z h3)
  | _ => False
def dTabGet (fa : Str → Addr) (T : Str) (tb : List (Str × Str)) (te tk td : DTE) : DTE := fun σ h Q => te σ h fun x h1 => x = .own (fa T) ∧ tk σ h1 fun y h2 => td σ h2 fun z h3 => tgK fa tb Q y z h3
section
variable {fa : Str → Addr} {T k : Str} {h : MH} {Q : DK} {σ : DSt}
theorem r_tabF {tb : List (Str × Str)} {f : Str} (e : tb.lookup k = some f) (q : Q (.own (fa f)) h) : rdTabF fa T tb (.own (fa T)) (.d (.str k)) h Q := by
  refine ⟨rfl, ?_⟩
  rw [e]
  exact q
theorem r_tabD {tb : List (Str × List Str)} {zs : List Str} (e : tb.lookup k = some zs) (q : Q (.d (.tuple (zs.map PyData.str))) h) : rdTabD fa T tb (.own (fa T)) (.d (.str k)) h Q := by
  refine ⟨rfl, ?_⟩
  rw [e]
  exact q
theorem r_inTab {no b : Bool} {ks : List Str} (e : ks.contains k = b) (q : Q (.d (.bool (no ^^ b))) h) : rdInTab fa T no ks (.d (.str k)) (.own (fa T)) h Q := ⟨rfl, e ▸ q⟩
theorem e_tabGet {tb : List (Str × Str)} {te tk td : DTE} (q : te σ h fun x h1 => x = .own (fa T) ∧ tk σ h1 fun y h2 => td σ h2 fun z h3 => tgK fa tb Q y z h3) : dTabGet fa T tb te tk td σ h Q := q
theorem k_tgF {tb : List (Str × Str)} {f : Str} {z : SV} (e : tb.lookup k = some f) (q : Q (.own (fa f)) h) : tgK fa tb Q (.d (.str k)) z h := by
  unfold tgK
  dsimp only
  rw [e]
  exact q
theorem k_tgN {tb : List (Str × Str)} {z : SV} (e : tb.lookup k = none) (q : Q z h) : tgK fa tb Q (.d (.str k)) z h := by
  unfold tgK
  dsimp only
  rw [e]
  exact q
end
section
variable {X : Cx} {x T : Str} {pos : Pos} {o e f : Expr}
theorem de_fnm (m : X.mg x = some (.ref (He.ga X.K x))) (hg : Gl X x := by rfl) (hd : (x == ("__debug__" : Str)) = false := by decide) : DE X Γ (.Name x pos) (dFn (He.ga X.K) x) :=
  ⟨fun _ _ _ _ k w => k _ _ w, pe_imp (pe_glob hg m (v := .ref (He.ga X.K x)) rfl hd) fun σ H Q ⟨σd, h, rs, rm, w⟩ => w _ H PX.refl rfl rm⟩
theorem ktab_at {K : PySem.W.Frag} {w : World} {mg : Str → Option Value} {ks : List Str} (G : GTab K w mg T ks) {k : Str} {u : Value} {v : V} (e : PySem.W.nsIn K (He.ga K T) k = some (some u)) (r : RelV v u) : KDct K w (He.ga K T) k v := by
  obtain ⟨es, n, D⟩ := He.dicW_ok (w := w) G.dic
  exact ⟨es, n, u, D.at_, D.lit, e, r⟩
theorem lr_tabF {K : PySem.W.Frag} {w : World} {mg : Str → Option Value} {tb : List (Str × Str)} (G : GTabF K w mg T tb) : LR2 K Γ (rdTabF (He.ga K) T tb) (rIxD K w) := by
  refine ⟨fun x y h Q Q' k w => ?_, fun x y v u H h C Q rv ru rm w k => ?_⟩
  · unfold rdTabF at w ⊢
    split at w
    · refine ⟨w.1, ?_⟩
      have w2 := w.2
      split at w2
      · exact k _ _ w2
      · exact w2
    · exact w
  · unfold rdTabF at w
    split at w
    · rename_i z
      obtain ⟨rfl, w2⟩ := w
      split at w2
      · rename_i f e
        obtain ⟨u0, e1, e2⟩ := He.valsB_ok G.val (List.mem_map_of_mem (lookup_mem e))
        have ev : v = .ref (He.ga K T) := rv
        subst ev
        cases (show Dp K _ u (.str z) from ru)
        exact ⟨_, z, .ref (He.ga K f), rfl, rfl, ktab_at G.tab e1 e2, k (.own (He.ga K f)) h (.ref (He.ga K f)) H PX.refl (show RV K Γ H h (.own (He.ga K f)) (.ref (He.ga K f)) from rfl) rm w2⟩
      · exact w2.elim
    · exact w.elim
theorem lr_tabD {K : PySem.W.Frag} {w : World} {mg : Str → Option Value} {tb : List (Str × List Str)} (G : GTabD K w mg T tb) : LR2 K Γ (rdTabD (He.ga K) T tb) (rIxD K w) := by
  refine ⟨fun x y h Q Q' k w => ?_, fun x y v u H h C Q rv ru rm w k => ?_⟩
  · unfold rdTabD at w ⊢
    split at w
    · refine ⟨w.1, ?_⟩
      have w2 := w.2
      split at w2
      · exact k _ _ w2
      · exact w2
    · exact w
  · unfold rdTabD at w
    split at w
    · rename_i z
      obtain ⟨rfl, w2⟩ := w
      split at w2
      · rename_i zs e
        obtain ⟨b, e1, e2⟩ := tabDB_ok G.val (lookup_mem e) (Fz Γ H h)
        have ev : v = .ref (He.ga K T) := rv
        subst ev
        cases (show Dp K _ u (.str z) from ru)
        exact ⟨_, z, .ref b, rfl, rfl, ktab_at G.tab e1 rfl, k (.d (.tuple (zs.map PyData.str))) h (.ref b) H PX.refl (show RV K Γ H h (.d (.tuple (zs.map PyData.str))) (.ref b) from Dp.tup e2 (dps_strs zs)) rm w2⟩
      · exact w2.elim
    · exact w.elim
theorem de_tab {r' : DR2} {ta tb : DTE} {a b : Expr} (l : LR2 X.K Γ r' (rIxD X.K X.w)) (ha : DE X Γ a ta) (hb : DE X Γ b tb) (hs : PlainIx b := by exact fun _ _ => rfl) : DE X Γ (.Subscript a b pos) (dOp r' ta tb) :=
  ⟨mono_op l.mono ha.mono hb.mono, pe_imp (pe_ix ix_kdict ha.pe hb.pe hs) (op_lift l ha.mono hb.mono)⟩
/-- k in T -/
def rInTab (K : PySem.W.Frag) (T : Str) (no : Bool) : R2 := fun x y H Q => ∃ (z : Str) (r : Option Value), x = .str z ∧ y = .ref (He.ga K T) ∧ PySem.W.nsIn K (He.ga K T) z = some r ∧ Q (.bl (no ^^ r.isSome)) H
theorem op_notInTab {ks : List Str} (G : GTab X.K X.w X.mg T ks) : OpR X (compareOp .NotIn) (rInTab X.K T true) := by
  obtain ⟨es, n, D⟩ := He.dicW_ok (w := X.w) G.dic
  intro pins s σ H x y v u Q I rx ry ⟨z, r, e1, e2, e3, q⟩
  exact op_notIn_kd D pins s σ H x y v u Q I rx ry ⟨z, r, e1, e2, e3, by simpa using q⟩
theorem lr_inTab {K : PySem.W.Frag} {w : World} {mg : Str → Option Value} {ks : List Str} {no : Bool} (G : GTab K w mg T ks) : LR2 K Γ (rdInTab (He.ga K) T no ks) (rInTab K T no) := by
  refine ⟨fun x y h Q Q' k w => ?_, fun x y v u H h C Q rv ru rm w k => ?_⟩
  · unfold rdInTab at w ⊢
    split at w
    · exact ⟨w.1, k _ _ w.2⟩
    · exact w
  · unfold rdInTab at w
    split at w
    · rename_i z
      obtain ⟨rfl, w2⟩ := w
      obtain ⟨r, e1, e2⟩ := dicW_ns G.dic z
      have eu : u = .ref (He.ga K T) := ru
      subst eu
      cases (show Dp K _ v (.str z) from rv)
      refine ⟨z, r, rfl, rfl, e1, ?_⟩
      rw [e2]
      exact k _ h _ H PX.refl rv_bl rm w2
    · exact w.elim
end
section
variable {X : Cx} {o e f : Expr} {T : Str} {apos cpos : Pos} {te tk td : DTE}
theorem de_tabGet {tb : List (Str × Str)} (G : GTabF X.K X.w X.mg T tb) (ho : DE X Γ o te) (he : DE X Γ e tk) (hf : DE X Γ f td) (m : M2 X o "get" apos e f cpos) : DE X Γ (.Call (.Attribute o "get" apos) [e, f] [] cpos) (dTabGet (He.ga X.K) T tb te tk td) := by
  refine ⟨fun σ h Q Q' k w => ho.mono _ _ _ _ (fun x h1 w1 => ⟨w1.1, he.mono _ _ _ _ (fun y h2 w2 => hf.mono _ _ _ _ (fun z h3 w3 => ?_) w2) w1.2⟩) w, ⟨fun pins s σ H Q I w => ?_⟩⟩
  · unfold tgK at w3 ⊢
    split at w3
    · split at w3
      · exact k _ _ w3
      · exact k _ _ w3
    · exact w3
  obtain ⟨σd, h, rs, rm, w⟩ := w
  obtain ⟨es, n, D⟩ := He.dicW_ok (w := X.w) G.tab.dic
  obtain ⟨QQ, hQQ⟩ : ∃ QQ : DK, QQ = fun z h' => ∀ v H', PX Γ H h H' h' → RV X.K Γ H' h' z v → RM X.K Γ H' h' → Q v H' := ⟨_, rfl⟩
  rw [← hQQ] at w
  refine wpAny_Call_method m.base m.few m.line PySem.F.plainAttrs_dict PySem.F.slot_dict_get PySem.F.type_dict_get (thn (ho.pe.run pins s σ H (fun v H1 => ∃ x h1, PX Γ H h H1 h1 ∧ RSt X.K Γ H1 h1 σd σ ∧ RV X.K Γ H1 h1 x v ∧ RM X.K Γ H1 h1 ∧ x = .own (He.ga X.K T) ∧ tk σd h1 fun y h2 => td σd h2 fun z h3 => tgK (He.ga X.K) tb QQ y z h3) I
    (lift_mk ho.mono rs rm w fun x h1 v H1 px rs1 rv rm1 w1 => ⟨x, h1, px, rs1, rv, rm1, w1.1, w1.2⟩)) fun u s1 ⟨v, H1, I1, ru, x, h1, px, rs1, rv, rm1, ex, w1⟩ => ?_)
  subst ex
  have ev : v = .ref (He.ga X.K T) := rv
  subst ev
  obtain rfl : u = Value.ref (He.ga X.K T) := ru
  have hm := PySem.W.mapOf_K (prog := X.prog) (w := X.w) I1.kIn D.at_ D.lit
  refine ⟨hm.typeIs, hm.noDict, ?_⟩
  rw [m.trees]
  refine Calls.callWith_builtin rfl (Calls.evalArgs_plain (Calls.spliced_cons (thn (he.pe.run pins s1 σ H1 (fun v H2 => ∃ y h2, PX Γ H1 h1 H2 h2 ∧ RSt X.K Γ H2 h2 σd σ ∧ RV X.K Γ H2 h2 y v ∧ RM X.K Γ H2 h2 ∧ td σd h2 fun z h3 => tgK (He.ga X.K) tb QQ y z h3) I1
    (lift_mk he.mono rs1 rm1 w1 fun y h2 v2 H2 px2 rs2 ry rm2 w2 => ⟨y, h2, px2, rs2, ry, rm2, w2⟩)) fun iv s2 ⟨v2, H2, I2, rkey, y, h2, px2, rs2, ry, rm2, w2⟩ => ?_)))
  refine Calls.spliced_cons (thn (hf.pe.run pins s2 σ H2 (fun v H3 => ∃ z h3, PX Γ H2 h2 H3 h3 ∧ RV X.K Γ H3 h3 z v ∧ RM X.K Γ H3 h3 ∧ tgK (He.ga X.K) tb QQ y z h3) I2
    (lift_mk hf.mono rs2 rm2 w2 fun z h3 v3 H3 px3 rs3 rz rm3 w3 => ⟨z, h3, px3, rz, rm3, w3⟩)) fun fv s3 Z3 => Calls.spliced_nil ?_)
  obtain ⟨v3, H3, I3, rv3, z, h3, px3, rz, rm3, w3⟩ := Z3
  unfold tgK at w3
  split at w3
  · rename_i k
    cases (show Dp X.K _ v2 (.str k) from ry)
    obtain ⟨t, rfl⟩ := (show ∃ t, iv = Value.str k t from rkey)
    have hm3 := PySem.W.mapOf_K (prog := X.prog) (w := X.w) I3.kIn D.at_ D.lit
    refine call_meetsIn PySem.F.slot_dict_get hm3.typeIs PySem.F.entry_dict_get (PySem.F.args_dict_get_3 _ _ _) (meets_dict_get_default _ _ (strKind_is X.prog X.w k t) D.low fv) ⟨_, hm3, ?_⟩
    split at w3
    · rename_i f e
      obtain ⟨u0, e1, e2⟩ := He.valsB_ok G.val (List.mem_map_of_mem (lookup_mem e))
      rw [PySem.W.find_K D.at_ e1]
      rw [hQQ] at w3
      exact ⟨_, H3, I3.tok _, e2, w3 _ H3 ((px.trans px2).trans px3) rfl rm3⟩
    · rename_i e
      obtain ⟨r, e1, e2⟩ := dicW_ns G.tab.dic k
      have er : r = none := by
        cases r with
        | none => rfl
        | some y =>
          have z : k ∈ tb.map (·.1) := List.contains_iff_mem.mp e2.symm
          obtain ⟨p, hp, rfl⟩ := List.mem_map.mp z
          exact absurd e (lookup_ne hp)
      subst er
      rw [PySem.W.find_K D.at_ e1]
      rw [hQQ] at w3
      exact ⟨_, H3, I3.tok _, rv3, w3 _ H3 ((px.trans px2).trans px3) rz rm3⟩
  · exact w3.elim
end
def dCallV (E : DXS) (fa : Str → Addr) (ws : List (Str × DSp)) (i : Nat) (t : DTA) : DTE := fun σ h Q => ∃ f W, slot σ i = some (.own (fa f)) ∧ ws.lookup f = some W ∧ t σ h fun xs h1 => W xs h1 Q fun x h2 => E x σ h2
theorem e_callV {E : DXS} {fa : Str → Addr} {ws : List (Str × DSp)} {i : Nat} {t : DTA} {σ : DSt} {h : MH} {Q : DK} {f : Str} {W : DSp} (e : slot σ i = some (.own (fa f))) (l : ws.lookup f = some W) (k : t σ h fun xs h1 => W xs h1 Q fun x h2 => E x σ h2) : dCallV E fa ws i t σ h Q := ⟨f, W, e, l, k⟩
section
variable {P : Program} {w : World} {K : PySem.W.Frag} {mg : Str → Option Value} {base : Heap} {T : List (Addr × Str)} {k : Nat}
def FnV (P : Program) (w : World) (K : PySem.W.Frag) (mg : Str → Option Value) (base : Heap) (T : List (Addr × Str)) (k : Nat) (x : Str) (W : DSp) : Prop := ∃ fd ps, FnG P w K mg base T k (He.ga K x) fd ps W ∧ PySem.W.keepIn K (.ref (He.ga K x)) = true ∧ Binds K fd ps []
theorem FnC.v {x : Str} {ps : List Str} {W : DSp} (F : FnC P w K mg base T k x ps W) (m : mg x = some (.ref (He.ga K x))) : FnV P w K mg base T k x W := by
  obtain ⟨f, fd, G, kp, hb, e⟩ := F
  have q := e.symm.trans m
  cases q
  exact ⟨fd, ps, G, kp, hb⟩
def FnVs (P : Program) (w : World) (K : PySem.W.Frag) (mg : Str → Option Value) (base : Heap) (T : List (Addr × Str)) (k : Nat) (ws : List (Str × DSp)) : Prop := ∀ f W, ws.lookup f = some W → FnV P w K mg base T k f W
theorem fnvs_nil : FnVs P w K mg base T k [] := fun _ _ h => by cases h
theorem fnvs_cons {x : Str} {W : DSp} {ws : List (Str × DSp)} (a : FnV P w K mg base T k x W) (b : FnVs P w K mg base T k ws) : FnVs P w K mg base T k ((x, W) :: ws) := fun f W' h => by
  rw [List.lookup_cons] at h
  cases e : (f == x) with
  | true =>
    rw [e] at h
    cases h
    rw [beq_iff_eq.mp e]
    exact a
  | false =>
    rw [e] at h
    exact b f W' h
/-- a promise at every place of the module's functions -/
def fnA (N ps : List Str) (t : (Str → Addr) → DXS → DTS) : DSp := fun ds h Q E => ∀ fa, fnW N ps (t fa) ds h Q E
theorem fn_gA {fa : Str → Addr} {f : Addr} {fd : FuncData} {N ps : List Str} {t : (Str → Addr) → DXS → DTS} (G : FnG P w K mg base T k f fd ps (fnW N ps (t fa))) : FnG P w K mg base T k f fd ps (fnA N ps t) :=
  ⟨fun ds h Q E w => (w fa).1, fun ds h Q Q' E E' kq kx w fa => fnW_mono _ _ _ _ _ _ kq kx (w fa), fun A outer s H args us vs Q E hr gd env bi rel ⟨xs, ds, h, rv, rm, w⟩ => G.run A outer s H args us vs Q E hr gd env bi rel ⟨xs, ds, h, rv, rm, w fa⟩⟩
theorem fnA_mk {N ps : List Str} {t : (Str → Addr) → DXS → DTS} {ds : List SV} {h : MH} {Q : DK} {E : DXK} (hl : ds.length = ps.length) (ht : ∀ fa, t fa (fun x _ h' => E x (restrX h h')) (dEnd h Q) (dstart N ds) h) : fnA N ps t ds h Q E := fun fa => fnW_mk hl (ht fa)
end
theorem de_callV {X : Cx} {k : Nat} {ws : List (Str × DSp)} {i : Nat} {E : DXS} {x : Str} {p pos : Pos} {e : Expr} {es : List Expr} {t : DTA} {T : List (Addr × Str)} (hΓ : Γ.T = T) (F : FnVs X.prog X.w X.K X.mg X.base T k ws) (hr : Room k X.A) (hgd : X.A.guards = some []) (tk : Takes X (liftX X.K Γ E))
    (hn : DE X Γ (.Name x p) (dVar i)) (ha : DA X Γ (e :: es) t) (he : starEach (e :: es) X.env = (false, eval e X.env) :: starEach es X.env := by rfl) (hpl : (backTo pos (starEach es X.env)).any (·.1) = false := by rfl) :
    DE X Γ (.Call (.Name x p) (e :: es) [] pos) (dCallV E (He.ga X.K) ws i t) := by
  subst hΓ
  refine ⟨fun σ h Q Q' kq ⟨f, W, e1, e2, w⟩ => ⟨f, W, e1, e2, ha.mono _ _ _ _ (fun xs h1 w1 => ?_) w⟩, ⟨fun pins s σ H Q I w => ?_⟩⟩
  · obtain ⟨_, _, G, _⟩ := F f W e2
    exact G.mono _ _ _ _ _ _ kq (fun _ _ z => z) w1
  obtain ⟨σd, h, rs, rm, f, W, es1, lw, w⟩ := w
  obtain ⟨fd, ps, G, kp, hb⟩ := F f W lw
  refine wpAny_Call_Name_kw (thn (hn.pe.run pins s σ H (fun v H1 => v = .ref (He.ga X.K f) ∧ PX Γ H h H1 h ∧ RM X.K Γ H1 h) I ⟨σd, h, rs, rm, ?_⟩) fun u s1 ⟨v, H1, I1, ru, ev, px, rm1⟩ => ?_)
  · unfold dVar
    rw [es1]
    exact fun v H' px rv rm' => ⟨rv, px, rm'⟩
  subst ev
  obtain rfl : u = Value.ref (He.ga X.K f) := ru
  refine PySem.W.callWith_K (h₀ := X.base) I1.ok.mod.kin kp (thn (ha.pa.run pos pins s1 σ H1 (fun vs H2 => ∃ xs h1, PX Γ H h H2 h1 ∧ RVs X.K Γ H2 h1 xs vs ∧ RSt X.K Γ H2 h1 σd σ ∧ RM X.K Γ H2 h1 ∧ W xs h1 (fun z h' => ∀ v H', PX Γ H h H' h' → RV X.K Γ H' h' z v → RM X.K Γ H' h' → Q v H') fun x h2 => E x σd h2) I1
    (lift_mk ha.mono (rs.up px) rm1 w fun xs h1 vs H2 px1 rs2 rvs rm2 w1 => ⟨xs, h1, px.trans px1, rvs, rs2, rm2, w1⟩)) ?_) he hpl
  rintro us s2 ⟨vs, H2, I2, r, xs, h1, px1, rvs, rs2, rm2, w1⟩
  exact ⟨I2.kIn, run_g G hr hgd hb tk I2 r rvs rs2 rm2 w1 fun z h' v H' px' rz rm' c => c v H' (px1.trans px') rz rm'⟩
/-- the head's tables -/
theorem saysT_dic {fa : List He.Fa} {fn : List He.DefD} {ts : List He.Tab} {w : World} {K : PySem.W.Frag} (c : He.SaysT fa fn ts w K) (i : Nat) {t : He.Tab} (h : ts[i]? = some t := by rfl) : He.dicW K (t.1 K) = some (He.keysIn w.params t.2) := by
  have e : ts.map (fun t => He.dicW K (t.1 K)) = ts.map fun t => some (He.keysIn w.params t.2) := congrArg (fun z : He.AlT => z.2) c
  have e2 : (ts.map fun t => He.dicW K (t.1 K))[i]? = (ts.map fun t => some (He.keysIn w.params t.2))[i]? := by rw [e]
  rw [List.getElem?_map, List.getElem?_map, h] at e2
  exact Option.some.inj e2
end DL

namespace DL
open PySem PySem.Spec PyProof.Rows L2
set_option autoImplicit true

/-- what a zip of the list a and the tuple b leans on -/
structure ZlAt (h : Heap) (z TI TO i1 i2 a b : Addr) (k : Nat) (f0 : Value) : Prop where
  zip : IsZip h z TI TO f0
  its : IsPair h TI (.ref i1) (.ref i2)
  out : ∃ x y, IsPair h TO x y
  one : h.IsListIter i1 a k
  two : h.IsTupleIter i2 b k
theorem ZlAt.up {g g' : Heap} {z TI TO i1 i2 a b : Addr} {n : Nat} {f0 : Value} (Z : ZlAt g z TI TO i1 i2 a b n f0) (k : ∀ c, c ∈ [z, TI, TO, i1, i2] → ∀ o, g.get? c = some o → g'.get? c = some o) : ZlAt g' z TI TO i1 i2 a b n f0 :=
  ⟨k _ (by simp) _ Z.zip, k _ (by simp) _ Z.its, Z.out.imp fun _ => Exists.imp fun _ => k _ (by simp) _, Z.one.at fun o => k _ (by simp) o, Z.two.at fun o => k _ (by simp) o⟩
section
variable {prog : Program} {w : World} {A : Around} {E : Value → Shared → Prop} {s : Shared}
end
section
variable {X : Cx} {a b : Expr} {p pos tpos : Pos} {elts : List Expr} {kk : Nat} {ta tb : DTE}
end
section
variable {X : Cx} {a b : Expr} {p pos tpos kpos cp : Pos} {elts : List Expr} {kk ck : Nat} {ta tb : DTE}
end
end DL

namespace DL
open PySem PySem.Spec PyProof.Rows L2
set_option autoImplicit true

def rdNotInTx : DR2 := fun x y h Q => match asStr x, asStr y with
  | some i, some z => ∃ c, i = ⟨#[c]⟩ ∧ Q (.d (.bool (!decide (c ∈ z.cps.toList)))) h
  | _, _ => False
theorem lr_notInTx {K : PySem.W.Frag} : LR2 K Γ rdNotInTx (fun x y H Q => ∃ (c : Nat) (z : Str), x = .str ⟨#[c]⟩ ∧ y = .str z ∧ Q (.bl (!decide (c ∈ z.cps.toList))) H) := by
  refine ⟨fun x y h Q Q' k w => ?_, fun x y v u H h C' Q rv ru rm w k => ?_⟩
  · unfold rdNotInTx at w ⊢
    split at w
    · obtain ⟨c, e, q⟩ := w
      exact ⟨c, e, k _ _ q⟩
    · exact w
  · unfold rdNotInTx at w
    split at w
    · rename_i i j e1 e2
      obtain ⟨c, e, q⟩ := w
      exact ⟨c, j, by rw [asStr_ok rv e1, e], asStr_ok ru e2, k _ _ _ H PX.refl rv_bl rm q⟩
    · exact w.elim
theorem r_notInTx {c : Nat} {z : Str} {h : MH} {Q : DK} (k : Q (.d (.bool (!decide (c ∈ z.cps.toList)))) h) : rdNotInTx (.d (.str ⟨#[c]⟩)) (.d (.str z)) h Q := ⟨c, rfl, k⟩
end DL

namespace DL
open PySem PySem.Spec PyProof.Rows L2
set_option autoImplicit true

section
variable {X : Cx} {e o : Expr} {pos apos : Pos} {te to : DTE}
def splK (Q : DK) (x y : SV) (h : MH) : Prop := match asStr x, asStr y with
  | some a, some b => (b.length == 0) = false ∧ a.length + 2 ≤ sizeLine ∧ Q (.d (.list ((Txt.split a b).map PyData.str))) h
  | _, _ => False
/-- text.split(sep) -/
def dSplit (to te : DTE) : DTE := fun σ h Q => to σ h fun x h1 => (∃ a, asStr x = some a) ∧ te σ h1 fun y h2 => splK Q x y h2
theorem de_split (ho : DE X Γ o to) (he : DE X Γ e te) (hs : starEach [e] X.env = [(false, eval e X.env)] := by rfl) (hbase : attributeBase o "split" X.env (eval o X.env) = eval o X.env := by rfl) (hline : (apos.endLine == pos.line) = true := by rfl) :
    DE X Γ (.Call (.Attribute o "split" apos) [e] [] pos) (dSplit to te) :=
  ⟨fun σ h Q Q' k w => ho.mono _ _ _ _ (fun x h1 w1 => ⟨w1.1, he.mono _ _ _ _ (fun y h2 w2 => by
    unfold splK at w2 ⊢
    split at w2
    · exact ⟨w2.1, w2.2.1, k _ _ w2.2.2⟩
    · exact w2) w1.2⟩) w, pe_imp (pe_split ho.pe he.pe hs hbase hline) fun σ H Q ⟨σd, h, rs, rm, w⟩ => lift_mk ho.mono rs rm w fun x h1 v H1 px rs1 rv rm1 w1 => by
    obtain ⟨⟨a, ea⟩, w1⟩ := w1
    refine ⟨⟨a, asStr_ok rv ea⟩, lift_mk he.mono rs1 rm1 w1 fun y h2 u H2 px2 rs2 ry rm2 w2 => ?_⟩
    unfold splK at w2
    split at w2
    · rename_i a' b e1 e2
      obtain ⟨c1, c2, q⟩ := w2
      refine ⟨a', b, asStr_ok (rv.up px2) e1, congrArg (fun z => [z]) (asStr_ok ry e2), c1, c2, fun p hp => ?_⟩
      obtain ⟨q1, q2, q3⟩ := new_list (ds := (Txt.split a' b).map PyData.str) hp rm2 (dps_strs _)
      exact q _ _ ((px.trans px2).trans q1) q3 q2
    · exact w2.elim⟩
def stK (Q : DK) (x y : SV) (h : MH) : Prop := match asStr x, asStr y with
  | some a, some b => Q (.d (.bool (Txt.startswith a b))) h
  | _, _ => False
/-- text.startswith(text) -/
def dStart (to te : DTE) : DTE := fun σ h Q => to σ h fun x h1 => (∃ a, asStr x = some a) ∧ te σ h1 fun y h2 => stK Q x y h2
theorem de_start (ho : DE X Γ o to) (he : DE X Γ e te) (hs : starEach [e] X.env = [(false, eval e X.env)] := by rfl) (hbase : attributeBase o "startswith" X.env (eval o X.env) = eval o X.env := by rfl) (hline : (apos.endLine == pos.line) = true := by rfl) :
    DE X Γ (.Call (.Attribute o "startswith" apos) [e] [] pos) (dStart to te) :=
  ⟨fun σ h Q Q' k w => ho.mono _ _ _ _ (fun x h1 w1 => ⟨w1.1, he.mono _ _ _ _ (fun y h2 w2 => by
    unfold stK at w2 ⊢
    split at w2
    · exact k _ _ w2
    · exact w2) w1.2⟩) w, pe_imp (pe_m1 F.slot_str_startswith F.type_str_startswith mt_startswith ho.pe he.pe hs hbase hline) fun σ H Q ⟨σd, h, rs, rm, w⟩ => lift_mk ho.mono rs rm w fun x h1 v H1 px rs1 rv rm1 w1 => by
    obtain ⟨⟨a, ea⟩, w1⟩ := w1
    refine ⟨⟨a, asStr_ok rv ea⟩, lift_mk he.mono rs1 rm1 w1 fun y h2 u H2 px2 rs2 ry rm2 w2 => ?_⟩
    unfold stK at w2
    split at w2
    · rename_i a' b e1 e2
      exact ⟨a', b, asStr_ok (rv.up px2) e1, congrArg (fun z => [z]) (asStr_ok ry e2), w2 _ _ (px.trans px2) rv_bl rm2⟩
    · exact w2.elim⟩
end
def rdIntTx : DRA := fun xs h Q => match xs with
  | [x] => match asStr x with
    | some a => (∃ n, PySem.intText? a = some n ∧ a.length ≤ 640 ∧ Q (.d (.int n)) h)
    | none => False
  | _ => False
theorem la_intTx {K : PySem.W.Frag} : LRA K Γ rdIntTx (fun xs H Q => ∃ a n, xs = [.str a] ∧ PySem.intText? a = some n ∧ a.length ≤ 640 ∧ Q (.int n) H) := by
  refine ⟨fun xs h Q Q' k w => ?_, fun xs vs H h C Q r rm w k => ?_⟩
  · unfold rdIntTx at w ⊢
    split at w
    · split at w
      · obtain ⟨n, a, b, c⟩ := w
        exact ⟨n, a, b, k _ _ c⟩
      · exact w
    · exact w
  · unfold rdIntTx at w
    split at w
    · obtain ⟨v, rfl, rv⟩ := rvs1 r
      split at w
      · rename_i a e1
        obtain ⟨n, f1, f2, f3⟩ := w
        exact ⟨a, n, by rw [asStr_ok rv e1], f1, f2, k _ _ _ H PX.refl rv_int rm f3⟩
      · exact w.elim
    · exact w.elim
theorem b_intTx {h : MH} {Q : DK} {a : Str} {n : Int} (e : PySem.intText? a = some n) (l : a.length ≤ 640) (k : Q (.d (.int n)) h) : rdIntTx [.d (.str a)] h Q := ⟨n, e, l, k⟩
theorem call_strA {X : Cx} : CallR X (.type "str") (fun xs H Q => (∃ i, xs = [.int i] ∧ i.natAbs.log2 < 1920 ∧ Q (.str (toString i)) H) ∨ ∃ a, xs = [.str a] ∧ Q (.str a) H) := call_str_int.or SkE.call_str_str
def rdStrA : DRA := fun xs h Q => match xs with
  | [x] => match asInt x with
    | some i => i.natAbs.log2 < 1920 ∧ Q (.d (.str (toString i))) h
    | none => match asStr x with
      | some a => Q (.d (.str a)) h
      | none => False
  | _ => False
theorem la_strA {K : PySem.W.Frag} : LRA K Γ rdStrA (fun xs H Q => (∃ i, xs = [.int i] ∧ i.natAbs.log2 < 1920 ∧ Q (.str (toString i)) H) ∨ ∃ a, xs = [.str a] ∧ Q (.str a) H) := by
  refine ⟨fun xs h Q Q' k w => ?_, fun xs vs H h C Q r rm w k => ?_⟩
  · unfold rdStrA at w ⊢
    split at w
    · split at w
      · exact ⟨w.1, k _ _ w.2⟩
      · split at w
        · exact k _ _ w
        · exact w
    · exact w
  · unfold rdStrA at w
    split at w
    · obtain ⟨v, rfl, rv⟩ := rvs1 r
      split at w
      · rename_i i e1
        exact .inl ⟨i, by rw [asInt_ok rv e1], w.1, k _ _ _ H PX.refl rv_str rm w.2⟩
      · split at w
        · rename_i a e1
          exact .inr ⟨a, by rw [asStr_ok rv e1], k _ _ _ H PX.refl rv_str rm w⟩
        · exact w.elim
    · exact w.elim
section
variable {h : MH} {Q : DK} {σ : DSt} {te to : DTE}
theorem b_strAi {i : Int} (c : i.natAbs.log2 < 1920) (k : Q (.d (.str (toString i))) h) : rdStrA [.d (.int i)] h Q := ⟨c, k⟩
theorem b_strAs {a : Str} (k : Q (.d (.str a)) h) : rdStrA [.d (.str a)] h Q := k
def splK1 (te : DTE) (σ : DSt) (Q : DK) : DK := fun x h1 => (∃ a, asStr x = some a) ∧ te σ h1 fun y h2 => splK Q x y h2
theorem e_split (k : to σ h (splK1 te σ Q)) : dSplit to te σ h Q := k
theorem k_split1 {a : Str} (k : te σ h fun y h2 => splK Q (.d (.str a)) y h2) : splK1 te σ Q (.d (.str a)) h := ⟨⟨a, rfl⟩, k⟩
theorem k_split {a b : Str} (c : (b.length == 0) = false) (l : a.length ≤ 1000000) (k : Q (.d (.list ((Txt.split a b).map PyData.str))) h) : splK Q (.d (.str a)) (.d (.str b)) h := ⟨c, by rw [sizeLine_eq]; omega, k⟩
def stK1 (te : DTE) (σ : DSt) (Q : DK) : DK := fun x h1 => (∃ a, asStr x = some a) ∧ te σ h1 fun y h2 => stK Q x y h2
theorem e_start (k : to σ h (stK1 te σ Q)) : dStart to te σ h Q := k
theorem k_start1 {a : Str} (k : te σ h fun y h2 => stK Q (.d (.str a)) y h2) : stK1 te σ Q (.d (.str a)) h := ⟨⟨a, rfl⟩, k⟩
theorem k_start {a b : Str} (k : Q (.d (.bool (Txt.startswith a b))) h) : stK Q (.d (.str a)) (.d (.str b)) h := k
theorem r_slTx {z : Str} {lo hi : Option Int} (l : z.length ≤ 16777216) (k : Q (.d (.str (cutS z lo hi))) h) : rdSl (.d (.str z)) lo hi h Q := ⟨by rw [sizeLine_eq]; exact l, k⟩
end
end DL

namespace DL.G
open PySem PySem.Spec PyProof.Rows L2
set_option autoImplicit true

/-! ### is_number -/
theorem sc_is_number : FnScope ["thing"] ["thing"] (defScope s_is_number) := ⟨rfl, rfl, rfl, by decide +kernel, rfl, by decide +kernel, by decide +kernel⟩
def t_is_number : DTS := (dRet (dAndV (dIsT (dVar 0) "int") (dNotV (dIsT (dVar 0) "bool"))))
def W_is_number : DSp := fnW ["thing"] ["thing"] fun _ => t_is_number
theorem f_is_number {P : Program} {w : World} {K : PySem.W.Frag} {mg : Str → Option Value} {base : Heap} {T : List (Addr × Str)} {k : Nat} {f : Addr} {fd : FuncData} (F : Fun K "is_number" "is_number" s_is_number f fd) (g_isinstance : mg "isinstance" = none) (g_int : mg "int" = none) (g_bool : mg "bool" = none) :
    FnG P w K mg base T (k + 1) f fd ["thing"] W_is_number := by
  have c_ := sc_is_number
  refine fn_g (k := k) F sc_is_number fun cdv A outer s H E' Γ Ed hcd hΓ hr hg tk => ?_
  have r1_ := room1 hr
  have r64_ := room64 hr
  have r65_ := room65 hr
  exact (dss_one (ds_ret (de_and (de_isT (n := "int") (dv 0) (by rfl) g_isinstance (by rfl) g_int (by decide +kernel)) (de_one (de_not (de_isT (n := "bool") (dv 0) (by rfl) g_isinstance (by rfl) g_bool (by decide +kernel)))))))
/-! ### is_word -/
theorem sc_is_word : FnScope ["thing", "sign"] ["thing"] (defScope s_is_word) := ⟨rfl, rfl, rfl, by decide +kernel, rfl, by decide +kernel, by decide +kernel⟩
def t_is_word : DTS := (dSeq (dIfS (dOr (dNot (dTest (dIsT (dVar 0) "str"))) (dNot (dTest (dChain rdLe rdLe (dC (.int 1)) (dB rdLen (dCons (dVar 0) dNil)) (dC (.int 8)))))) (dRet (dC (.bool false))) dNext)
  (dRet (dB rdAll (dCons (dL (fLc (wTx (dVar 0)) (.nm 1) dYes (dOp rdInTx (dVar 1) (dC (.str "abcdefghijklmnopqrstuvwxyz"))) [1])) dNil))))
def W_is_word : DSp := fnW ["thing", "sign"] ["thing"] fun _ => t_is_word
theorem f_is_word {P : Program} {w : World} {K : PySem.W.Frag} {mg : Str → Option Value} {base : Heap} {T : List (Addr × Str)} {k : Nat} {f : Addr} {fd : FuncData} (F : Fun K "is_word" "is_word" s_is_word f fd) (g_all : mg "all" = none) (g_isinstance : mg "isinstance" = none) (g_str : mg "str" = none) (g_len : mg "len" = none) (k_LETTERS : ∃ t, mg "LETTERS" = some (.str "abcdefghijklmnopqrstuvwxyz" t)) (k_MOST_LETTERS : ∃ t, mg "MOST_LETTERS" = some (.int 8 t)) :
    FnG P w K mg base T (k + 1) f fd ["thing"] W_is_word := by
  have c_ := sc_is_word
  refine fn_g (k := k) F sc_is_word fun cdv A outer s H E' Γ Ed hcd hΓ hr hg tk => ?_
  have r1_ := room1 hr
  have r64_ := room64 hr
  have r65_ := room65 hr
  exact (dss_cons (ds_if (DW.dt (dw_or (dt_not (dt_val (de_isT (n := "str") (dv 0) (by rfl) g_isinstance (by rfl) g_str (by decide +kernel)))) (dw_or1 (dt_not (dt_chain (op_leG r1_) lr_le (op_leG r1_) lr_le de_int (de_callB cr_len la_len (by rfl) g_len (by decide +kernel) (da_cons (dv 0) da_nil)) (de_gint (by rfl) k_MOST_LETTERS)))))) (dss_one (ds_ret de_bl)) dss_nil)
    (dss_one (ds_ret (de_callB (cr_all (by rfl)) la_all (by rfl) g_all (by decide +kernel) (da_cons (DF.toDE (df_lc (by rfl) c_.nd (dw_tx (dv 0)) (own := [("sign", 1)]) (show BlkOk ["thing", "sign"] (defScope s_is_word) _ _ from blkOk_by (by decide +kernel)) (fun _ _ _ _ _ => (dg_nm 1 c_.nd)) (by decide) (fun Γ' hΓ1 _ _ _ _ _ => have hΓ := hΓ1.trans hΓ; dts_nil) (fun Γ' hΓ1 _ _ _ _ _ => have hΓ := hΓ1.trans hΓ; (de_cmp op_in_sign lr_inTx (dv 1) (de_gtx (z := "abcdefghijklmnopqrstuvwxyz") (by rfl) k_LETTERS))))) da_nil)))))
/-! ### is_figure -/
theorem sc_is_figure : FnScope ["thing"] ["thing"] (defScope s_is_figure) := ⟨rfl, rfl, rfl, by decide +kernel, rfl, by decide +kernel, by decide +kernel⟩
def t_is_figure : DTS := (dRet (dAndV (dCall noX W_is_number (dCons (dVar 0) dNil)) (dOp rdGe (dVar 0) (dC (.int 0)))))
def W_is_figure : DSp := fnW ["thing"] ["thing"] fun _ => t_is_figure
theorem f_is_figure {P : Program} {w : World} {K : PySem.W.Frag} {mg : Str → Option Value} {base : Heap} {T : List (Addr × Str)} {k : Nat} {f : Addr} {fd : FuncData} (F : Fun K "is_figure" "is_figure" s_is_figure f fd) (c_is_number : FnC P w K mg base T k "is_number" ["thing"] W_is_number) :
    FnG P w K mg base T (k + 1) f fd ["thing"] W_is_figure := by
  have c_ := sc_is_figure
  refine fn_g (k := k) F sc_is_figure fun cdv A outer s H E' Γ Ed hcd hΓ hr hg tk => ?_
  have r1_ := room1 hr
  have r64_ := room64 hr
  have r65_ := room65 hr
  exact (dss_one (ds_ret (de_and (de_fn hΓ c_is_number hr hg takes_no (da_cons (dv 0) da_nil)) (de_one (de_cmp (op_geG r1_) lr_ge (dv 0) de_int)))))
/-! ### is_pace -/
theorem sc_is_pace : FnScope ["thing"] ["thing"] (defScope s_is_pace) := ⟨rfl, rfl, rfl, by decide +kernel, rfl, by decide +kernel, by decide +kernel⟩
def t_is_pace : DTS := (dRet (dAndV (dCall noX W_is_number (dCons (dVar 0) dNil)) (dOp rdGe (dVar 0) (dC (.int 1)))))
def W_is_pace : DSp := fnW ["thing"] ["thing"] fun _ => t_is_pace
theorem f_is_pace {P : Program} {w : World} {K : PySem.W.Frag} {mg : Str → Option Value} {base : Heap} {T : List (Addr × Str)} {k : Nat} {f : Addr} {fd : FuncData} (F : Fun K "is_pace" "is_pace" s_is_pace f fd) (c_is_number : FnC P w K mg base T k "is_number" ["thing"] W_is_number) :
    FnG P w K mg base T (k + 1) f fd ["thing"] W_is_pace := by
  have c_ := sc_is_pace
  refine fn_g (k := k) F sc_is_pace fun cdv A outer s H E' Γ Ed hcd hΓ hr hg tk => ?_
  have r1_ := room1 hr
  have r64_ := room64 hr
  have r65_ := room65 hr
  exact (dss_one (ds_ret (de_and (de_fn hΓ c_is_number hr hg takes_no (da_cons (dv 0) da_nil)) (de_one (de_cmp (op_geG r1_) lr_ge (dv 0) de_int)))))
/-! ### is_columns -/
theorem sc_is_columns : FnScope ["thing"] ["thing"] (defScope s_is_columns) := ⟨rfl, rfl, rfl, by decide +kernel, rfl, by decide +kernel, by decide +kernel⟩
def t_is_columns : DTS := (dRet (dAndV (dCall noX W_is_pace (dCons (dVar 0) dNil)) (dOp rdLe (dVar 0) (dC (.int 3)))))
def W_is_columns : DSp := fnW ["thing"] ["thing"] fun _ => t_is_columns
theorem f_is_columns {P : Program} {w : World} {K : PySem.W.Frag} {mg : Str → Option Value} {base : Heap} {T : List (Addr × Str)} {k : Nat} {f : Addr} {fd : FuncData} (F : Fun K "is_columns" "is_columns" s_is_columns f fd) (c_is_pace : FnC P w K mg base T k "is_pace" ["thing"] W_is_pace) (k_MOST_COLUMNS : ∃ t, mg "MOST_COLUMNS" = some (.int 3 t)) :
    FnG P w K mg base T (k + 1) f fd ["thing"] W_is_columns := by
  have c_ := sc_is_columns
  refine fn_g (k := k) F sc_is_columns fun cdv A outer s H E' Γ Ed hcd hΓ hr hg tk => ?_
  have r1_ := room1 hr
  have r64_ := room64 hr
  have r65_ := room65 hr
  exact (dss_one (ds_ret (de_and (de_fn hΓ c_is_pace hr hg takes_no (da_cons (dv 0) da_nil)) (de_one (de_cmp (op_leG r1_) lr_le (dv 0) (de_gint (by rfl) k_MOST_COLUMNS))))))
/-! ### are_values -/
theorem sc_are_values : FnScope ["thing", "one"] ["thing"] (defScope s_are_values) := ⟨rfl, rfl, rfl, by decide +kernel, rfl, by decide +kernel, by decide +kernel⟩
def t_are_values : DTS := (dSeq (dIfS (dOr (dNot (dTest (dIsT (dVar 0) "tuple"))) (dNot (dTest (dChain rdLe rdLe (dC (.int 1)) (dB rdLen (dCons (dVar 0) dNil)) (dC (.int 3)))))) (dRet (dC (.bool false))) dNext)
  (dRet (dB rdAll (dCons (dL (fLc (wSeq (dVar 0)) (.nm 1) dYes (dCall noX W_is_number (dCons (dVar 1) dNil)) [1])) dNil))))
def W_are_values : DSp := fnW ["thing", "one"] ["thing"] fun _ => t_are_values
theorem f_are_values {P : Program} {w : World} {K : PySem.W.Frag} {mg : Str → Option Value} {base : Heap} {T : List (Addr × Str)} {k : Nat} {f : Addr} {fd : FuncData} (F : Fun K "are_values" "are_values" s_are_values f fd) (c_is_number : FnC P w K mg base T k "is_number" ["thing"] W_is_number) (g_all : mg "all" = none) (g_isinstance : mg "isinstance" = none) (g_tuple : mg "tuple" = none) (g_len : mg "len" = none) (k_MOST_COLUMNS : ∃ t, mg "MOST_COLUMNS" = some (.int 3 t)) :
    FnG P w K mg base T (k + 1) f fd ["thing"] W_are_values := by
  have c_ := sc_are_values
  refine fn_g (k := k) F sc_are_values fun cdv A outer s H E' Γ Ed hcd hΓ hr hg tk => ?_
  have r1_ := room1 hr
  have r64_ := room64 hr
  have r65_ := room65 hr
  exact (dss_cons (ds_if (DW.dt (dw_or (dt_not (dt_val (de_isT (n := "tuple") (dv 0) (by rfl) g_isinstance (by rfl) g_tuple (by decide +kernel)))) (dw_or1 (dt_not (dt_chain (op_leG r1_) lr_le (op_leG r1_) lr_le de_int (de_callB cr_len la_len (by rfl) g_len (by decide +kernel) (da_cons (dv 0) da_nil)) (de_gint (by rfl) k_MOST_COLUMNS)))))) (dss_one (ds_ret de_bl)) dss_nil)
    (dss_one (ds_ret (de_callB (cr_all (by rfl)) la_all (by rfl) g_all (by decide +kernel) (da_cons (DF.toDE (df_lc (by rfl) c_.nd (dw_seq (dv 0)) (own := [("one", 1)]) (show BlkOk ["thing", "one"] (defScope s_are_values) _ _ from blkOk_by (by decide +kernel)) (fun _ _ _ _ _ => (dg_nm 1 c_.nd)) (by decide) (fun Γ' hΓ1 _ _ _ _ _ => have hΓ := hΓ1.trans hΓ; dts_nil) (fun Γ' hΓ1 _ _ _ _ _ => have hΓ := hΓ1.trans hΓ; (de_fn hΓ c_is_number hr hg takes_no (da_cons (dv 1) da_nil))))) da_nil)))))
/-! ### is_truth -/
theorem sc_is_truth : FnScope ["thing"] ["thing"] (defScope s_is_truth) := ⟨rfl, rfl, rfl, by decide +kernel, rfl, by decide +kernel, by decide +kernel⟩
def t_is_truth : DTS := (dRet (dIsT (dVar 0) "bool"))
def W_is_truth : DSp := fnW ["thing"] ["thing"] fun _ => t_is_truth
theorem f_is_truth {P : Program} {w : World} {K : PySem.W.Frag} {mg : Str → Option Value} {base : Heap} {T : List (Addr × Str)} {k : Nat} {f : Addr} {fd : FuncData} (F : Fun K "is_truth" "is_truth" s_is_truth f fd) (g_isinstance : mg "isinstance" = none) (g_bool : mg "bool" = none) :
    FnG P w K mg base T (k + 1) f fd ["thing"] W_is_truth := by
  have c_ := sc_is_truth
  refine fn_g (k := k) F sc_is_truth fun cdv A outer s H E' Γ Ed hcd hΓ hr hg tk => ?_
  have r1_ := room1 hr
  have r64_ := room64 hr
  have r65_ := room65 hr
  exact (dss_one (ds_ret (de_isT (n := "bool") (dv 0) (by rfl) g_isinstance (by rfl) g_bool (by decide +kernel))))
/-! ### is_of -/
theorem sc_is_of : FnScope ["form", "thing", "look"] ["form", "thing"] (defScope s_is_of) := ⟨rfl, rfl, rfl, by decide +kernel, rfl, by decide +kernel, by decide +kernel⟩
def ws_is_of : List (Str × DSp) := [("is_figure", W_is_figure), ("is_number", W_is_number), ("is_pace", W_is_pace), ("is_columns", W_is_columns), ("are_values", W_are_values), ("is_truth", W_is_truth), ("is_word", W_is_word)]
def t_is_of (fa_ : Str → Addr) : DTS := (dSeq (dAsg (dOp (rdTabF fa_ "KINDS" [("writer", "is_figure"), ("figure", "is_figure"), ("number", "is_number"), ("pace", "is_pace"), ("columns", "is_columns"), ("values", "are_values"), ("truth", "is_truth"), ("name", "is_word")]) (dFn fa_ "KINDS") (dVar 0)) (.nm 2))
  (dRet (dCallV noX fa_ ws_is_of 2 (dCons (dVar 1) dNil))))
def W_is_of : DSp := fnA ["form", "thing", "look"] ["form", "thing"] fun fa_ _ => t_is_of fa_
theorem f_is_of {P : Program} {w : World} {K : PySem.W.Frag} {mg : Str → Option Value} {base : Heap} {T : List (Addr × Str)} {k : Nat} {f : Addr} {fd : FuncData} (F : Fun K "is_of" "is_of" s_is_of f fd) (c_is_figure : FnC P w K mg base T k "is_figure" ["thing"] W_is_figure) (c_is_number : FnC P w K mg base T k "is_number" ["thing"] W_is_number) (c_is_pace : FnC P w K mg base T k "is_pace" ["thing"] W_is_pace) (c_is_columns : FnC P w K mg base T k "is_columns" ["thing"] W_is_columns) (c_are_values : FnC P w K mg base T k "are_values" ["thing"] W_are_values) (c_is_truth : FnC P w K mg base T k "is_truth" ["thing"] W_is_truth) (c_is_word : FnC P w K mg base T k "is_word" ["thing"] W_is_word) (m_KINDS : mg "KINDS" = some (.ref (He.ga K "KINDS"))) (m_is_figure : mg "is_figure" = some (.ref (He.ga K "is_figure"))) (m_is_number : mg "is_number" = some (.ref (He.ga K "is_number"))) (m_is_pace : mg "is_pace" = some (.ref (He.ga K "is_pace"))) (m_is_columns : mg "is_columns" = some (.ref (He.ga K "is_columns"))) (m_are_values : mg "are_values" = some (.ref (He.ga K "are_values"))) (m_is_truth : mg "is_truth" = some (.ref (He.ga K "is_truth"))) (m_is_word : mg "is_word" = some (.ref (He.ga K "is_word"))) (k_KINDS : GTabF K w mg "KINDS" [("writer", "is_figure"), ("figure", "is_figure"), ("number", "is_number"), ("pace", "is_pace"), ("columns", "is_columns"), ("values", "are_values"), ("truth", "is_truth"), ("name", "is_word")]) :
    FnG P w K mg base T (k + 1) f fd ["form", "thing"] W_is_of := by
  have c_ := sc_is_of
  refine fn_gA (fa := He.ga K) ?_
  refine fn_g (k := k) F sc_is_of fun cdv A outer s H E' Γ Ed hcd hΓ hr hg tk => ?_
  have r1_ := room1 hr
  have r64_ := room64 hr
  have r65_ := room65 hr
  exact (dss_cons (ds_set 2 c_.nd (de_tab (lr_tabF k_KINDS) (de_fnm m_KINDS) (dv 0)))
    (dss_one (ds_ret (de_callV hΓ (fnvs_cons (c_is_figure.v m_is_figure) (fnvs_cons (c_is_number.v m_is_number) (fnvs_cons (c_is_pace.v m_is_pace) (fnvs_cons (c_is_columns.v m_is_columns) (fnvs_cons (c_are_values.v m_are_values) (fnvs_cons (c_is_truth.v m_is_truth) (fnvs_cons (c_is_word.v m_is_word) fnvs_nil))))))) hr hg takes_no (dv 2) (da_cons (dv 1) da_nil)))))
/-! ### figures_in -/
theorem sc_figures_in : FnScope ["word", "sign"] ["word"] (defScope s_figures_in) := ⟨rfl, rfl, rfl, by decide +kernel, rfl, by decide +kernel, by decide +kernel⟩
def t_figures_in : DTS := (dSeq (dIfS (dOr (dNot (dTest (dChain rdLe rdLe (dC (.int 1)) (dB rdLen (dCons (dVar 0) dNil)) (dC (.int 9))))) (dNot (dTest (dB rdAll (dCons (dL (fLc (wTx (dVar 0)) (.nm 1) dYes (dOp rdInTx (dVar 1) (dC (.str "0123456789"))) [1])) dNil))))) (dRet (dC .none)) dNext)
  (dRet (dIf (dOr (dTest (dOp rdEq (dVar 0) (dC (.str "0")))) (dTest (dOp rdNe (dOp rdIx (dVar 0) (dC (.int 0))) (dC (.str "0"))))) (dB rdIntTx (dCons (dVar 0) dNil)) (dC .none))))
def W_figures_in : DSp := fnW ["word", "sign"] ["word"] fun _ => t_figures_in
theorem f_figures_in {P : Program} {w : World} {K : PySem.W.Frag} {mg : Str → Option Value} {base : Heap} {T : List (Addr × Str)} {k : Nat} {f : Addr} {fd : FuncData} (F : Fun K "figures_in" "figures_in" s_figures_in f fd) (g_int : mg "int" = none) (g_len : mg "len" = none) (g_all : mg "all" = none) (k_MOST_FIGURES : ∃ t, mg "MOST_FIGURES" = some (.int 9 t)) (k_FIGURES : ∃ t, mg "FIGURES" = some (.str "0123456789" t)) :
    FnG P w K mg base T (k + 1) f fd ["word"] W_figures_in := by
  have c_ := sc_figures_in
  refine fn_g (k := k) F sc_figures_in fun cdv A outer s H E' Γ Ed hcd hΓ hr hg tk => ?_
  have r1_ := room1 hr
  have r64_ := room64 hr
  have r65_ := room65 hr
  exact (dss_cons (ds_if (DW.dt (dw_or (dt_not (dt_chain (op_leG r1_) lr_le (op_leG r1_) lr_le de_int (de_callB cr_len la_len (by rfl) g_len (by decide +kernel) (da_cons (dv 0) da_nil)) (de_gint (by rfl) k_MOST_FIGURES))) (dw_or1 (dt_not (dt_val (de_callB (cr_all (by rfl)) la_all (by rfl) g_all (by decide +kernel) (da_cons (DF.toDE (df_lc (by rfl) c_.nd (dw_tx (dv 0)) (own := [("sign", 1)]) (show BlkOk ["word", "sign"] (defScope s_figures_in) _ _ from blkOk_by (by decide +kernel)) (fun _ _ _ _ _ => (dg_nm 1 c_.nd)) (by decide) (fun Γ' hΓ1 _ _ _ _ _ => have hΓ := hΓ1.trans hΓ; dts_nil) (fun Γ' hΓ1 _ _ _ _ _ => have hΓ := hΓ1.trans hΓ; (de_cmp op_in_sign lr_inTx (dv 1) (de_gtx (z := "0123456789") (by rfl) k_FIGURES))))) da_nil))))))) (dss_one (ds_ret de_non)) dss_nil)
    (dss_one (ds_ret (de_ifExp (DW.dt (dw_or (dt_cmp (op_eqA r64_) lr_eq (dv 0) de_str) (dw_or1 (dt_cmp (op_neA r64_) lr_ne (de_ix r1_ (dv 0) de_int) de_str)))) (de_callTy call_int_str la_intTx (by rfl) g_int (by decide +kernel) (da_cons (dv 0) da_nil)) de_non))))
/-! ### number_in -/
theorem sc_number_in : FnScope ["word", "found"] ["word"] (defScope s_number_in) := ⟨rfl, rfl, rfl, by decide +kernel, rfl, by decide +kernel, by decide +kernel⟩
def t_number_in : DTS := (dSeq (dIfS (dNot (dTest (dStart (dVar 0) (dC (.str "-"))))) (dRet (dCall noX W_figures_in (dCons (dVar 0) dNil))) dNext)
  (dSeq (dAsg (dCall noX W_figures_in (dCons (dSl (dVar 0) (dPart (dC (.int 1))) dNoPart) dNil)) (.nm 1))
  (dRet (dIf (dOr (dTest (dOp rdIsN (dVar 1) (dC .none))) (dTest (dOp rdEq (dVar 1) (dC (.int 0))))) (dC .none) (dNeg (dVar 1))))))
def W_number_in : DSp := fnW ["word", "found"] ["word"] fun _ => t_number_in
theorem f_number_in {P : Program} {w : World} {K : PySem.W.Frag} {mg : Str → Option Value} {base : Heap} {T : List (Addr × Str)} {k : Nat} {f : Addr} {fd : FuncData} (F : Fun K "number_in" "number_in" s_number_in f fd) (c_figures_in : FnC P w K mg base T k "figures_in" ["word"] W_figures_in) :
    FnG P w K mg base T (k + 1) f fd ["word"] W_number_in := by
  have c_ := sc_number_in
  refine fn_g (k := k) F sc_number_in fun cdv A outer s H E' Γ Ed hcd hΓ hr hg tk => ?_
  have r1_ := room1 hr
  have r64_ := room64 hr
  have r65_ := room65 hr
  exact (dss_cons (ds_if (dt_not (dt_val (de_start (dv 0) de_str))) (dss_one (ds_ret (de_fn hΓ c_figures_in hr hg takes_no (da_cons (dv 0) da_nil)))) dss_nil)
    (dss_cons (ds_set 1 c_.nd (de_fn hΓ c_figures_in hr hg takes_no (da_cons (de_sl (dv 0) (do_some de_int) do_none) da_nil)))
    (dss_one (ds_ret (de_ifExp (DW.dt (dw_or (dt_cmp op_isN lr_isN (dv 1) de_non) (dw_or1 (dt_cmp (op_eqA r64_) lr_eq (dv 1) de_int)))) de_non (de_neg (dv 1)))))))
/-! ### values_in -/
theorem sc_values_in : FnScope ["word", "found", "part"] ["word"] (defScope s_values_in) := ⟨rfl, rfl, rfl, by decide +kernel, rfl, by decide +kernel, by decide +kernel⟩
def t_values_in : DTS := (dSeq (dAsg (dL (fLc (wSeq (dSplit (dVar 0) (dC (.str ",")))) (.nm 2) dYes (dCall noX W_number_in (dCons (dVar 2) dNil)) [2])) (.nm 1))
  (dRet (dIf (dTest (dOp rdInL (dC .none) (dVar 1))) (dC .none) (dB rdTuple (dCons (dVar 1) dNil)))))
def W_values_in : DSp := fnW ["word", "found", "part"] ["word"] fun _ => t_values_in
theorem f_values_in {P : Program} {w : World} {K : PySem.W.Frag} {mg : Str → Option Value} {base : Heap} {T : List (Addr × Str)} {k : Nat} {f : Addr} {fd : FuncData} (F : Fun K "values_in" "values_in" s_values_in f fd) (c_number_in : FnC P w K mg base T k "number_in" ["word"] W_number_in) (g_tuple : mg "tuple" = none) :
    FnG P w K mg base T (k + 1) f fd ["word"] W_values_in := by
  have c_ := sc_values_in
  refine fn_g (k := k) F sc_values_in fun cdv A outer s H E' Γ Ed hcd hΓ hr hg tk => ?_
  have r1_ := room1 hr
  have r64_ := room64 hr
  have r65_ := room65 hr
  exact (dss_cons (ds_lc 1 (by rfl) c_.nd (dw_seq (de_split (dv 0) de_str)) (own := [("part", 2)]) (show BlkOk ["word", "found", "part"] (defScope s_values_in) _ _ from blkOk_by (by decide +kernel)) (fun _ _ _ _ _ => (dg_nm 2 c_.nd)) (by decide) (fun Γ' hΓ1 _ _ _ _ _ => have hΓ := hΓ1.trans hΓ; dts_nil) (fun Γ' hΓ1 _ _ _ _ _ => have hΓ := hΓ1.trans hΓ; (de_fn hΓ c_number_in hr hg takes_no (da_cons (dv 2) da_nil))))
    (dss_one (ds_ret (de_ifExp (dt_cmp (op_inG r65_) lr_inL de_non (dv 1)) de_non (de_callTy call_tuple_of la_tuple (by rfl) g_tuple (by decide +kernel) (da_cons (dv 1) da_nil))))))
/-! ### truth_in -/
theorem sc_truth_in : FnScope ["word"] ["word"] (defScope s_truth_in) := ⟨rfl, rfl, rfl, by decide +kernel, rfl, by decide +kernel, by decide +kernel⟩
def t_truth_in : DTS := (dRet (dDGet2 (dDisp (((dC (.str "yes")), (dC (.bool true))) :: (((dC (.str "no")), (dC (.bool false))) :: []))) (dVar 0) (dC .none)))
def W_truth_in : DSp := fnW ["word"] ["word"] fun _ => t_truth_in
theorem f_truth_in {P : Program} {w : World} {K : PySem.W.Frag} {mg : Str → Option Value} {base : Heap} {T : List (Addr × Str)} {k : Nat} {f : Addr} {fd : FuncData} (F : Fun K "truth_in" "truth_in" s_truth_in f fd) :
    FnG P w K mg base T (k + 1) f fd ["word"] W_truth_in := by
  have c_ := sc_truth_in
  refine fn_g (k := k) F sc_truth_in fun cdv A outer s H E' Γ Ed hcd hΓ hr hg tk => ?_
  have r1_ := room1 hr
  have r64_ := room64 hr
  have r65_ := room65 hr
  exact (dss_one (ds_ret (de_dget2 r1_ (de_disp (dps_cons0 de_str de_bl (dps_cons0 de_str de_bl dps_nil0))) (dv 0) de_non m2_of)))
/-! ### plain_in -/
theorem sc_plain_in : FnScope ["word"] ["word"] (defScope s_plain_in) := ⟨rfl, rfl, rfl, by decide +kernel, rfl, by decide +kernel, by decide +kernel⟩
def t_plain_in : DTS := (dRet (dVar 0))
def W_plain_in : DSp := fnW ["word"] ["word"] fun _ => t_plain_in
theorem f_plain_in {P : Program} {w : World} {K : PySem.W.Frag} {mg : Str → Option Value} {base : Heap} {T : List (Addr × Str)} {k : Nat} {f : Addr} {fd : FuncData} (F : Fun K "plain_in" "plain_in" s_plain_in f fd) :
    FnG P w K mg base T (k + 1) f fd ["word"] W_plain_in := by
  have c_ := sc_plain_in
  refine fn_g (k := k) F sc_plain_in fun cdv A outer s H E' Γ Ed hcd hΓ hr hg tk => ?_
  have r1_ := room1 hr
  have r64_ := room64 hr
  have r65_ := room65 hr
  exact (dss_one (ds_ret (dv 0)))
/-! ### thing_in -/
theorem sc_thing_in : FnScope ["form", "word", "reader", "found"] ["form", "word"] (defScope s_thing_in) := ⟨rfl, rfl, rfl, by decide +kernel, rfl, by decide +kernel, by decide +kernel⟩
def ws_thing_in : List (Str × DSp) := [("number_in", W_number_in), ("values_in", W_values_in), ("truth_in", W_truth_in), ("plain_in", W_plain_in)]
def t_thing_in (fa_ : Str → Addr) : DTS := (dSeq (dAsg (dTabGet fa_ "READERS" [("values", "values_in"), ("truth", "truth_in"), ("name", "plain_in")] (dFn fa_ "READERS") (dVar 0) (dFn fa_ "number_in")) (.nm 2))
  (dSeq (dAsg (dCallV noX fa_ ws_thing_in 2 (dCons (dVar 1) dNil)) (.nm 3))
  (dRet (dIf (dAnd (dTest (dOp rdNotN (dVar 3) (dC .none))) (dTest (dCall noX W_is_of (dCons (dVar 0) (dCons (dVar 3) dNil))))) (dVar 3) (dC .none)))))
def W_thing_in : DSp := fnA ["form", "word", "reader", "found"] ["form", "word"] fun fa_ _ => t_thing_in fa_
theorem f_thing_in {P : Program} {w : World} {K : PySem.W.Frag} {mg : Str → Option Value} {base : Heap} {T : List (Addr × Str)} {k : Nat} {f : Addr} {fd : FuncData} (F : Fun K "thing_in" "thing_in" s_thing_in f fd) (c_is_of : FnC P w K mg base T k "is_of" ["form", "thing"] W_is_of) (c_number_in : FnC P w K mg base T k "number_in" ["word"] W_number_in) (c_values_in : FnC P w K mg base T k "values_in" ["word"] W_values_in) (c_truth_in : FnC P w K mg base T k "truth_in" ["word"] W_truth_in) (c_plain_in : FnC P w K mg base T k "plain_in" ["word"] W_plain_in) (m_READERS : mg "READERS" = some (.ref (He.ga K "READERS"))) (m_number_in : mg "number_in" = some (.ref (He.ga K "number_in"))) (m_values_in : mg "values_in" = some (.ref (He.ga K "values_in"))) (m_truth_in : mg "truth_in" = some (.ref (He.ga K "truth_in"))) (m_plain_in : mg "plain_in" = some (.ref (He.ga K "plain_in"))) (k_READERS : GTabF K w mg "READERS" [("values", "values_in"), ("truth", "truth_in"), ("name", "plain_in")]) :
    FnG P w K mg base T (k + 1) f fd ["form", "word"] W_thing_in := by
  have c_ := sc_thing_in
  refine fn_gA (fa := He.ga K) ?_
  refine fn_g (k := k) F sc_thing_in fun cdv A outer s H E' Γ Ed hcd hΓ hr hg tk => ?_
  have r1_ := room1 hr
  have r64_ := room64 hr
  have r65_ := room65 hr
  exact (dss_cons (ds_set 2 c_.nd (de_tabGet k_READERS (de_fnm m_READERS) (dv 0) (de_fnm m_number_in) m2_of))
    (dss_cons (ds_set 3 c_.nd (de_callV hΓ (fnvs_cons (c_number_in.v m_number_in) (fnvs_cons (c_values_in.v m_values_in) (fnvs_cons (c_truth_in.v m_truth_in) (fnvs_cons (c_plain_in.v m_plain_in) fnvs_nil)))) hr hg takes_no (dv 2) (da_cons (dv 1) da_nil)))
    (dss_one (ds_ret (de_ifExp (DW.dt (dw_and (dt_cmp op_notN lr_notN (dv 3) de_non) (dw_and1 (dt_val (de_fn hΓ c_is_of hr hg takes_no (da_cons (dv 0) (da_cons (dv 3) da_nil))))))) (dv 3) de_non)))))
/-! ### things_in -/
theorem sc_things_in : FnScope ["row", "words", "forms", "found", "k", "form", "thing"] ["row", "words", "forms"] (defScope s_things_in) := ⟨rfl, rfl, rfl, by decide +kernel, rfl, by decide +kernel, by decide +kernel⟩
def t_things_in (E : DXS) : DTS := (dSeq (dAsg (dOwn (fLst dNil)) (.nm 3))
  (dSeq (dFor (wEnum (dVar 2)) (.tup [4, 5]) (dSeq (dAsg (dIf (dTest (dOp rdLt (dOp rdAdd (dVar 4) (dC (.int 1))) (dB rdLen (dCons (dVar 1) dNil)))) (dCall noX W_thing_in (dCons (dVar 5) (dCons (dOp rdIx (dVar 1) (dOp rdAdd (dVar 4) (dC (.int 1)))) dNil))) (dC .none)) (.nm 6))
  (dSeq (dIfS (dTest (dOp rdIsN (dVar 6) (dC .none))) (dRaise2 E "NoText" "row" "word" (dCons (dVar 0) (dCons (dOp rdAdd (dVar 4) (dC (.int 1))) dNil))) dNext)
  (dDrop (dML rdAppend (dVar 3) (dCons (dVar 6) dNil))))))
  (dSeq (dIfS (dTest (dOp rdGt (dB rdLen (dCons (dVar 1) dNil)) (dOp rdAdd (dB rdLen (dCons (dVar 2) dNil)) (dC (.int 1))))) (dRaise2 E "NoText" "row" "word" (dCons (dVar 0) (dCons (dOp rdAdd (dB rdLen (dCons (dVar 2) dNil)) (dC (.int 1))) dNil))) dNext)
  (dRet (dB rdTuple (dCons (dVar 3) dNil))))))
def W_things_in : DSp := fnW ["row", "words", "forms", "found", "k", "form", "thing"] ["row", "words", "forms"] t_things_in
theorem f_things_in {P : Program} {w : World} {K : PySem.W.Frag} {mg : Str → Option Value} {base : Heap} {T : List (Addr × Str)} {k : Nat} {f : Addr} {fd : FuncData} (F : Fun K "things_in" "things_in" s_things_in f fd) (c_thing_in : FnC P w K mg base T k "thing_in" ["form", "word"] W_thing_in) (g_tuple : mg "tuple" = none) (g_len : mg "len" = none) (g_enumerate : mg "enumerate" = none) (e_NoText : Err2 K mg "NoText" "row" "word") :
    FnG P w K mg base T (k + 1) f fd ["row", "words", "forms"] W_things_in := by
  have c_ := sc_things_in
  refine fn_g (k := k) F sc_things_in fun cdv A outer s H E' Γ Ed hcd hΓ hr hg tk => ?_
  have r1_ := room1 hr
  have r64_ := room64 hr
  have r65_ := room65 hr
  exact (dss_cons (ds_set 3 c_.nd (DF.toOwn (df_lst da_nil)))
    (dss_cons (ds_for (passes_of rfl) (by rfl) (dw_enum (by rfl) g_enumerate (dv 2)) (dg_tup (by rfl) (dgs_cons (dg_nm 4 c_.nd) (dgs_cons (dg_nm 5 c_.nd) dgs_nil))) (dss_cons (ds_set 6 c_.nd (de_ifExp (dt_cmp (op_ltG r1_) lr_lt (de_bin op_addAll lr_add (dv 4) de_int) (de_callB cr_len la_len (by rfl) g_len (by decide +kernel) (da_cons (dv 1) da_nil))) (de_fn hΓ c_thing_in hr hg takes_no (da_cons (dv 5) (da_cons (de_ix r1_ (dv 1) (de_bin op_addAll lr_add (dv 4) de_int)) da_nil))) de_non))
    (dss_cons (ds_if (dt_cmp op_isN lr_isN (dv 6) de_non) (dss_one (ds_raiseE2 (by rfl) e_NoText (by decide) hr tk (da_cons (dv 0) (da_cons (de_bin op_addAll lr_add (dv 4) de_int) da_nil)))) dss_nil)
    (dss_one (ds_expr (de_mL PySem.F.plainAttrs_list PySem.F.slot_list_append PySem.F.type_list_append mt_append lm_append (dv 3) (da_cons (dv 6) da_nil)))))))
    (dss_cons (ds_if (dt_cmp (op_gtG r1_) lr_gt (de_callB cr_len la_len (by rfl) g_len (by decide +kernel) (da_cons (dv 1) da_nil)) (de_bin op_addAll lr_add (de_callB cr_len la_len (by rfl) g_len (by decide +kernel) (da_cons (dv 2) da_nil)) de_int)) (dss_one (ds_raiseE2 (by rfl) e_NoText (by decide) hr tk (da_cons (dv 0) (da_cons (de_bin op_addAll lr_add (de_callB cr_len la_len (by rfl) g_len (by decide +kernel) (da_cons (dv 2) da_nil)) de_int) da_nil)))) dss_nil)
    (dss_one (ds_ret (de_callTy call_tuple_of la_tuple (by rfl) g_tuple (by decide +kernel) (da_cons (dv 3) da_nil)))))))
/-! ### line_in -/
theorem sc_line_in : FnScope ["row", "line", "can_begin", "words"] ["row", "line", "can_begin"] (defScope s_line_in) := ⟨rfl, rfl, rfl, by decide +kernel, rfl, by decide +kernel, by decide +kernel⟩
def t_line_in (fa_ : Str → Addr) (E : DXS) : DTS := (dSeq (dAsg (dSplit (dVar 1) (dC (.str " "))) (.nm 3))
  (dSeq (dIfS (dAnd (dTest (dOp rdEq (dOp rdIx (dVar 3) (dC (.int 0))) (dC (.str "store")))) (dTest (dVar 2))) (dRet (dOp rdAdd (dTup (dCons (dOp rdIx (dVar 3) (dC (.int 0))) dNil)) (dCall E W_things_in (dCons (dVar 0) (dCons (dVar 3) (dCons (dC (.tuple [.str "columns"])) dNil)))))) dNext)
  (dSeq (dIfS (dTest (dOp (rdInTab fa_ "FORMS" true ["begin", "put", "turn", "strike", "done", "gone", "build", "step", "leave", "drop", "clean", "crash"]) (dOp rdIx (dVar 3) (dC (.int 0))) (dFn fa_ "FORMS"))) (dRaise2 E "NoText" "row" "word" (dCons (dVar 0) (dCons (dC (.int 0)) dNil))) dNext)
  (dRet (dOp rdAdd (dTup (dCons (dOp rdIx (dVar 3) (dC (.int 0))) dNil)) (dCall E W_things_in (dCons (dVar 0) (dCons (dVar 3) (dCons (dOp (rdTabD fa_ "FORMS" [("begin", []), ("put", ["writer", "values"]), ("turn", ["writer", "number", "values"]), ("strike", ["writer", "number"]), ("done", ["writer"]), ("gone", ["writer"]), ("build", ["name", "figure", "truth"]), ("step", ["name", "pace"]), ("leave", ["name"]), ("drop", ["name"]), ("clean", []), ("crash", [])]) (dFn fa_ "FORMS") (dOp rdIx (dVar 3) (dC (.int 0)))) dNil)))))))))
def W_line_in : DSp := fnA ["row", "line", "can_begin", "words"] ["row", "line", "can_begin"] fun fa_ E => t_line_in fa_ E
theorem f_line_in {P : Program} {w : World} {K : PySem.W.Frag} {mg : Str → Option Value} {base : Heap} {T : List (Addr × Str)} {k : Nat} {f : Addr} {fd : FuncData} (F : Fun K "line_in" "line_in" s_line_in f fd) (c_things_in : FnC P w K mg base T k "things_in" ["row", "words", "forms"] W_things_in) (e_NoText : Err2 K mg "NoText" "row" "word") (k_FIRST : GTup K mg "FIRST" ["columns"]) (m_FORMS : mg "FORMS" = some (.ref (He.ga K "FORMS"))) (k_FORMS : GTabD K w mg "FORMS" [("begin", []), ("put", ["writer", "values"]), ("turn", ["writer", "number", "values"]), ("strike", ["writer", "number"]), ("done", ["writer"]), ("gone", ["writer"]), ("build", ["name", "figure", "truth"]), ("step", ["name", "pace"]), ("leave", ["name"]), ("drop", ["name"]), ("clean", []), ("crash", [])]) :
    FnG P w K mg base T (k + 1) f fd ["row", "line", "can_begin"] W_line_in := by
  have c_ := sc_line_in
  refine fn_gA (fa := He.ga K) ?_
  refine fn_g (k := k) F sc_line_in fun cdv A outer s H E' Γ Ed hcd hΓ hr hg tk => ?_
  have r1_ := room1 hr
  have r64_ := room64 hr
  have r65_ := room65 hr
  exact (dss_cons (ds_set 3 c_.nd (de_split (dv 1) de_str))
    (dss_cons (ds_if (DW.dt (dw_and (dt_cmp (op_eqA r64_) lr_eq (de_ix r1_ (dv 3) de_int) de_str) (dw_and1 (dt_val (dv 2))))) (dss_one (ds_ret (de_bin op_addAll lr_add (de_tup (da_cons (de_ix r1_ (dv 3) de_int) da_nil)) (de_fn hΓ c_things_in hr hg tk (da_cons (dv 0) (da_cons (dv 3) (da_cons (de_gtup (zs := ["columns"]) (by rfl) k_FIRST) da_nil))))))) dss_nil)
    (dss_cons (ds_if (dt_cmp (op_notInTab k_FORMS.tab) (lr_inTab k_FORMS.tab) (de_ix r1_ (dv 3) de_int) (de_fnm m_FORMS)) (dss_one (ds_raiseE2 (by rfl) e_NoText (by decide) hr tk (da_cons (dv 0) (da_cons de_int da_nil)))) dss_nil)
    (dss_one (ds_ret (de_bin op_addAll lr_add (de_tup (da_cons (de_ix r1_ (dv 3) de_int) da_nil)) (de_fn hΓ c_things_in hr hg tk (da_cons (dv 0) (da_cons (dv 3) (da_cons (de_tab (lr_tabD k_FORMS) (de_fnm m_FORMS) (de_ix r1_ (dv 3) de_int)) da_nil))))))))))
/-! ### read_row -/
theorem sc_read_row : FnScope ["text"] ["text"] (defScope s_read_row) := ⟨rfl, rfl, rfl, by decide +kernel, rfl, by decide +kernel, by decide +kernel⟩
def t_read_row (E : DXS) : DTS := (dRet (dCall E W_line_in (dCons (dC (.int 0)) (dCons (dVar 0) (dCons (dC (.bool true)) dNil)))))
def W_read_row : DSp := fnW ["text"] ["text"] t_read_row
theorem f_read_row {P : Program} {w : World} {K : PySem.W.Frag} {mg : Str → Option Value} {base : Heap} {T : List (Addr × Str)} {k : Nat} {f : Addr} {fd : FuncData} (F : Fun K "read_row" "read_row" s_read_row f fd) (c_line_in : FnC P w K mg base T k "line_in" ["row", "line", "can_begin"] W_line_in) :
    FnG P w K mg base T (k + 1) f fd ["text"] W_read_row := by
  have c_ := sc_read_row
  refine fn_g (k := k) F sc_read_row fun cdv A outer s H E' Γ Ed hcd hΓ hr hg tk => ?_
  have r1_ := room1 hr
  have r64_ := room64 hr
  have r65_ := room65 hr
  exact (dss_one (ds_ret (de_fn hΓ c_line_in hr hg tk (da_cons de_int (da_cons (dv 0) (da_cons de_bl da_nil))))))
/-! ### ask_columns -/
theorem sc_ask_columns : FnScope ["row", "words", "columns", "place", "found", "forms", "lead", "form", "word"] ["row", "words", "columns"] (defScope s_ask_columns) := ⟨rfl, rfl, rfl, by decide +kernel, rfl, by decide +kernel, by decide +kernel⟩
def t_ask_columns (fa_ : Str → Addr) (E : DXS) : DTS := (dIfS (dTest (dOp rdInF (dOp rdIx (dVar 1) (dC (.int 0))) (dTup (dCons (dC (.str "put")) (dCons (dC (.str "turn")) dNil))))) (dSeq (dAsg (dIf (dTest (dOp rdEq (dOp rdIx (dVar 1) (dC (.int 0))) (dC (.str "put")))) (dC (.int 2)) (dC (.int 3))) (.nm 3))
  (dSeq (dAsg (dIf (dTest (dOp rdGt (dB rdLen (dCons (dVar 1) dNil)) (dVar 3))) (dCall noX W_values_in (dCons (dOp rdIx (dVar 1) (dVar 3)) dNil)) (dC .none)) (.nm 4))
  (dSeq (dAsg (dOp (rdTabD fa_ "FORMS" [("begin", []), ("put", ["writer", "values"]), ("turn", ["writer", "number", "values"]), ("strike", ["writer", "number"]), ("done", ["writer"]), ("gone", ["writer"]), ("build", ["name", "figure", "truth"]), ("step", ["name", "pace"]), ("leave", ["name"]), ("drop", ["name"]), ("clean", []), ("crash", [])]) (dFn fa_ "FORMS") (dOp rdIx (dVar 1) (dC (.int 0)))) (.nm 5))
  (dSeq (dAsg (dB rdAll (dCons (dL (fLc (wZipM (dVar 5) (dSl (dVar 1) (dPart (dC (.int 1))) (dPart (dVar 3)))) (.tup [7, 8]) dYes (dOp rdNotN (dCall noX W_thing_in (dCons (dVar 7) (dCons (dVar 8) dNil))) (dC .none)) [7, 8])) dNil)) (.nm 6))
  (dIfS (dAnd (dTest (dVar 6)) (dAnd (dTest (dOp rdNotN (dVar 4) (dC .none))) (dTest (dOp rdNe (dB rdLen (dCons (dVar 4) dNil)) (dVar 2))))) (dRaise2 E "NoText" "row" "word" (dCons (dVar 0) (dCons (dVar 3) dNil))) dNext))))) dNext)
def W_ask_columns : DSp := fnA ["row", "words", "columns", "place", "found", "forms", "lead", "form", "word"] ["row", "words", "columns"] fun fa_ E => t_ask_columns fa_ E
theorem f_ask_columns {P : Program} {w : World} {K : PySem.W.Frag} {mg : Str → Option Value} {base : Heap} {T : List (Addr × Str)} {k : Nat} {f : Addr} {fd : FuncData} (F : Fun K "ask_columns" "ask_columns" s_ask_columns f fd) (c_thing_in : FnC P w K mg base T k "thing_in" ["form", "word"] W_thing_in) (c_values_in : FnC P w K mg base T k "values_in" ["word"] W_values_in) (g_len : mg "len" = none) (g_zip : mg "zip" = none) (g_all : mg "all" = none) (e_NoText : Err2 K mg "NoText" "row" "word") (m_FORMS : mg "FORMS" = some (.ref (He.ga K "FORMS"))) (k_FORMS : GTabD K w mg "FORMS" [("begin", []), ("put", ["writer", "values"]), ("turn", ["writer", "number", "values"]), ("strike", ["writer", "number"]), ("done", ["writer"]), ("gone", ["writer"]), ("build", ["name", "figure", "truth"]), ("step", ["name", "pace"]), ("leave", ["name"]), ("drop", ["name"]), ("clean", []), ("crash", [])]) :
    FnG P w K mg base T (k + 1) f fd ["row", "words", "columns"] W_ask_columns := by
  have c_ := sc_ask_columns
  refine fn_gA (fa := He.ga K) ?_
  refine fn_g (k := k) F sc_ask_columns fun cdv A outer s H E' Γ Ed hcd hΓ hr hg tk => ?_
  have r1_ := room1 hr
  have r64_ := room64 hr
  have r65_ := room65 hr
  exact (dss_one (ds_if (dt_cmp op_in_seq lr_inF (de_ix r1_ (dv 1) de_int) (de_tup (da_cons de_str (da_cons de_str da_nil)))) (dss_cons (ds_set 3 c_.nd (de_ifExp (dt_cmp (op_eqA r64_) lr_eq (de_ix r1_ (dv 1) de_int) de_str) de_int de_int))
    (dss_cons (ds_set 4 c_.nd (de_ifExp (dt_cmp (op_gtG r1_) lr_gt (de_callB cr_len la_len (by rfl) g_len (by decide +kernel) (da_cons (dv 1) da_nil)) (dv 3)) (de_fn hΓ c_values_in hr hg takes_no (da_cons (de_ix r1_ (dv 1) (dv 3)) da_nil)) de_non))
    (dss_cons (ds_set 5 c_.nd (de_tab (lr_tabD k_FORMS) (de_fnm m_FORMS) (de_ix r1_ (dv 1) de_int)))
    (dss_cons (ds_set 6 c_.nd (de_callB (cr_all (by rfl)) la_all (by rfl) g_all (by decide +kernel) (da_cons (DF.toDE (df_lc (by rfl) c_.nd (dw_zm (by rfl) g_zip (dv 5) (de_sl (dv 1) (do_some de_int) (do_some (dv 3)))) (own := [("form", 7), ("word", 8)]) (show BlkOk ["row", "words", "columns", "place", "found", "forms", "lead", "form", "word"] (defScope s_ask_columns) _ _ from blkOk_by (by decide +kernel)) (fun _ _ _ _ _ => (dg_tup (by rfl) (dgs_cons (dg_nm 7 c_.nd) (dgs_cons (dg_nm 8 c_.nd) dgs_nil)))) (by decide) (fun Γ' hΓ1 _ _ _ _ _ => have hΓ := hΓ1.trans hΓ; dts_nil) (fun Γ' hΓ1 _ _ _ _ _ => have hΓ := hΓ1.trans hΓ; (de_cmp op_notN lr_notN (de_fn hΓ c_thing_in hr hg takes_no (da_cons (dv 7) (da_cons (dv 8) da_nil))) de_non)))) da_nil)))
    (dss_one (ds_if (DW.dt (dw_and (dt_val (dv 6)) (dw_and (dt_cmp op_notN lr_notN (dv 4) de_non) (dw_and1 (dt_cmp (op_neA r64_) lr_ne (de_callB cr_len la_len (by rfl) g_len (by decide +kernel) (da_cons (dv 4) da_nil)) (dv 2)))))) (dss_one (ds_raiseE2 (by rfl) e_NoText (by decide) hr tk (da_cons (dv 0) (da_cons (dv 3) da_nil)))) dss_nil)))))) dss_nil))
/-! ### read_log -/
theorem sc_read_log : FnScope ["lines", "found", "row", "line", "words"] ["lines"] (defScope s_read_log) := ⟨rfl, rfl, rfl, by decide +kernel, rfl, by decide +kernel, by decide +kernel⟩
def t_read_log (E : DXS) : DTS := (dSeq (dIfS (dTest (dOp rdEq (dB rdLen (dCons (dVar 0) dNil)) (dC (.int 0)))) (dRaise2 E "NoText" "row" "word" (dCons (dC (.int 0)) (dCons (dC (.int 0)) dNil))) dNext)
  (dSeq (dAsg (dOwn (fLst dNil)) (.nm 1))
  (dSeq (dFor (wEnum (dVar 0)) (.tup [2, 3]) (dSeq (dAsg (dSplit (dVar 3) (dC (.str " "))) (.nm 4))
  (dSeq (dIfS (dAnd (dTest (dOp rdEq (dVar 2) (dC (.int 0)))) (dTest (dOp rdNe (dOp rdIx (dVar 4) (dC (.int 0))) (dC (.str "store"))))) (dRaise2 E "NoText" "row" "word" (dCons (dC (.int 0)) (dCons (dC (.int 0)) dNil))) dNext)
  (dSeq (dIfS (dTest (dOp rdGt (dVar 2) (dC (.int 0)))) (dDrop (dCall E W_ask_columns (dCons (dVar 2) (dCons (dVar 4) (dCons (dOp rdIx (dOp rdIx (dVar 1) (dC (.int 0))) (dC (.int 1))) dNil))))) dNext)
  (dDrop (dML rdAppend (dVar 1) (dCons (dCall E W_line_in (dCons (dVar 2) (dCons (dVar 3) (dCons (dOp rdEq (dVar 2) (dC (.int 0))) dNil)))) dNil)))))))
  (dRet (dB rdTuple (dCons (dVar 1) dNil))))))
def W_read_log : DSp := fnW ["lines", "found", "row", "line", "words"] ["lines"] t_read_log
theorem f_read_log {P : Program} {w : World} {K : PySem.W.Frag} {mg : Str → Option Value} {base : Heap} {T : List (Addr × Str)} {k : Nat} {f : Addr} {fd : FuncData} (F : Fun K "read_log" "read_log" s_read_log f fd) (c_line_in : FnC P w K mg base T k "line_in" ["row", "line", "can_begin"] W_line_in) (c_ask_columns : FnC P w K mg base T k "ask_columns" ["row", "words", "columns"] W_ask_columns) (g_tuple : mg "tuple" = none) (g_enumerate : mg "enumerate" = none) (g_len : mg "len" = none) (e_NoText : Err2 K mg "NoText" "row" "word") :
    FnG P w K mg base T (k + 1) f fd ["lines"] W_read_log := by
  have c_ := sc_read_log
  refine fn_g (k := k) F sc_read_log fun cdv A outer s H E' Γ Ed hcd hΓ hr hg tk => ?_
  have r1_ := room1 hr
  have r64_ := room64 hr
  have r65_ := room65 hr
  exact (dss_cons (ds_if (dt_cmp (op_eqA r64_) lr_eq (de_callB cr_len la_len (by rfl) g_len (by decide +kernel) (da_cons (dv 0) da_nil)) de_int) (dss_one (ds_raiseE2 (by rfl) e_NoText (by decide) hr tk (da_cons de_int (da_cons de_int da_nil)))) dss_nil)
    (dss_cons (ds_set 1 c_.nd (DF.toOwn (df_lst da_nil)))
    (dss_cons (ds_for (passes_of rfl) (by rfl) (dw_enum (by rfl) g_enumerate (dv 0)) (dg_tup (by rfl) (dgs_cons (dg_nm 2 c_.nd) (dgs_cons (dg_nm 3 c_.nd) dgs_nil))) (dss_cons (ds_set 4 c_.nd (de_split (dv 3) de_str))
    (dss_cons (ds_if (DW.dt (dw_and (dt_cmp (op_eqA r64_) lr_eq (dv 2) de_int) (dw_and1 (dt_cmp (op_neA r64_) lr_ne (de_ix r1_ (dv 4) de_int) de_str)))) (dss_one (ds_raiseE2 (by rfl) e_NoText (by decide) hr tk (da_cons de_int (da_cons de_int da_nil)))) dss_nil)
    (dss_cons (ds_if (dt_cmp (op_gtG r1_) lr_gt (dv 2) de_int) (dss_one (ds_expr (de_fn hΓ c_ask_columns hr hg tk (da_cons (dv 2) (da_cons (dv 4) (da_cons (de_ix r1_ (de_ix r1_ (dv 1) de_int) de_int) da_nil)))))) dss_nil)
    (dss_one (ds_expr (de_mL PySem.F.plainAttrs_list PySem.F.slot_list_append PySem.F.type_list_append mt_append lm_append (dv 1) (da_cons (de_fn hΓ c_line_in hr hg tk (da_cons (dv 2) (da_cons (dv 3) (da_cons (de_cmp (op_eqA r64_) lr_eq (dv 2) de_int) da_nil)))) da_nil))))))))
    (dss_one (ds_ret (de_callTy call_tuple_of la_tuple (by rfl) g_tuple (by decide +kernel) (da_cons (dv 1) da_nil)))))))
/-! ### _law_feed -/
theorem sc__law_feed : FnScope ["_law_script"] ["_law_script"] (defScope s__law_feed) := ⟨rfl, rfl, rfl, by decide +kernel, rfl, by decide +kernel, by decide +kernel⟩
def t__law_feed : DTS := (dRet (dOwn (fLst (dCons (dSl (dVar 0) dNoPart (dPart (dC (.int 63)))) (dCons (dC (.int 0)) (dCons (dC (.int 0)) (dCons (dC (.int 0)) dNil)))))))
def W__law_feed : DSp := fnW ["_law_script"] ["_law_script"] fun _ => t__law_feed
theorem f__law_feed {P : Program} {w : World} {K : PySem.W.Frag} {mg : Str → Option Value} {base : Heap} {T : List (Addr × Str)} {k : Nat} {f : Addr} {fd : FuncData} (F : Fun K "_law_feed" "_law_feed" s__law_feed f fd) :
    FnG P w K mg base T (k + 1) f fd ["_law_script"] W__law_feed := by
  have c_ := sc__law_feed
  refine fn_g (k := k) F sc__law_feed fun cdv A outer s H E' Γ Ed hcd hΓ hr hg tk => ?_
  have r1_ := room1 hr
  have r64_ := room64 hr
  have r65_ := room65 hr
  exact (dss_one (ds_ret (DF.toOwn (df_lst (da_cons (de_sl (dv 0) do_none (do_some de_int)) (da_cons de_int (da_cons de_int (da_cons de_int da_nil))))))))
/-! ### _law_draw -/
theorem sc__law_draw : FnScope ["_law_feed_here", "_law_bound", "_law_at", "_law_cell", "_law_first", "_law_found"] ["_law_feed_here", "_law_bound"] (defScope s__law_draw) := ⟨rfl, rfl, rfl, by decide +kernel, rfl, by decide +kernel, by decide +kernel⟩
def t__law_draw : DTS := (dSeq (dIfS (dTest (dOp rdGt (dOp rdIx (dVar 0) (dC (.int 2))) (dC (.int 0)))) (dSeq (dAsg (dOp rdMod (dOp rdIx (dVar 0) (dC (.int 2))) (dVar 1)) (.nm 5))
  (dSeq (dSetIx (dOp rdDiv (dOp rdIx (dVar 0) (dC (.int 2))) (dVar 1)) (dVar 0) (dC (.int 2)))
  (dRet (dVar 5)))) dNext)
  (dSeq (dAsg (dOp rdIx (dVar 0) (dC (.int 1))) (.nm 2))
  (dSeq (dSetIx (dOp rdAdd (dVar 2) (dC (.int 1))) (dVar 0) (dC (.int 1)))
  (dSeq (dSetIx (dOp rdAdd (dOp rdIx (dVar 0) (dC (.int 3))) (dC (.int 1))) (dVar 0) (dC (.int 3)))
  (dSeq (dAsg (dIf (dTest (dOp rdGt (dB rdLen (dCons (dOp rdIx (dVar 0) (dC (.int 0))) dNil)) (dC (.int 0)))) (dOp rdIx (dOp rdIx (dVar 0) (dC (.int 0))) (dOp rdMod (dVar 2) (dB rdLen (dCons (dOp rdIx (dVar 0) (dC (.int 0))) dNil)))) (dC (.int 0))) (.nm 3))
  (dSeq (dIfS (dAnd (dTest (dOp rdGe (dVar 3) (dOp rdPow (dC (.int 10)) (dC (.int 18))))) (dTest (dOp rdLt (dVar 2) (dB rdLen (dCons (dOp rdIx (dVar 0) (dC (.int 0))) dNil))))) (dSeq (dSetIx (dOp rdDiv (dVar 3) (dVar 1)) (dVar 0) (dC (.int 2)))
  (dRet (dOp rdMod (dVar 3) (dVar 1)))) dNext)
  (dSeq (dAsg (dOp rdMod (dOp rdPow (dOp rdAdd (dOp rdAdd (dOp rdMod (dVar 3) (dC (.int 1000003))) (dOp rdMul (dC (.int 613)) (dOp rdIx (dVar 0) (dC (.int 3))))) (dC (.int 17))) (dC (.int 5))) (dC (.int 2147483647))) (.nm 4))
  (dRet (dOp rdMod (dOp rdDiv (dOp rdMod (dOp rdPow (dOp rdAdd (dVar 4) (dOp rdMul (dC (.int 4099)) (dOp rdIx (dVar 0) (dC (.int 3))))) (dC (.int 5))) (dC (.int 2147483587))) (dC (.int 7))) (dVar 1))))))))))
def W__law_draw : DSp := fnW ["_law_feed_here", "_law_bound", "_law_at", "_law_cell", "_law_first", "_law_found"] ["_law_feed_here", "_law_bound"] fun _ => t__law_draw
theorem f__law_draw {P : Program} {w : World} {K : PySem.W.Frag} {mg : Str → Option Value} {base : Heap} {T : List (Addr × Str)} {k : Nat} {f : Addr} {fd : FuncData} (F : Fun K "_law_draw" "_law_draw" s__law_draw f fd) (g_len : mg "len" = none) :
    FnG P w K mg base T (k + 1) f fd ["_law_feed_here", "_law_bound"] W__law_draw := by
  have c_ := sc__law_draw
  refine fn_g (k := k) F sc__law_draw fun cdv A outer s H E' Γ Ed hcd hΓ hr hg tk => ?_
  have r1_ := room1 hr
  have r64_ := room64 hr
  have r65_ := room65 hr
  exact (dss_cons (ds_if (dt_cmp (op_gtG r1_) lr_gt (de_ix r1_ (dv 0) de_int) de_int) (dss_cons (ds_set 5 c_.nd (de_bin op_modN lr_mod (de_ix r1_ (dv 0) de_int) (dv 1)))
    (dss_cons (ds_setIx r1_ (de_bin op_fdivN lr_div (de_ix r1_ (dv 0) de_int) (dv 1)) (dv 0) de_int)
    (dss_one (ds_ret (dv 5))))) dss_nil)
    (dss_cons (ds_set 2 c_.nd (de_ix r1_ (dv 0) de_int))
    (dss_cons (ds_setIx r1_ (de_bin op_addAll lr_add (dv 2) de_int) (dv 0) de_int)
    (dss_cons (ds_setIx r1_ (de_bin op_addAll lr_add (de_ix r1_ (dv 0) de_int) de_int) (dv 0) de_int)
    (dss_cons (ds_set 3 c_.nd (de_ifExp (dt_cmp (op_gtG r1_) lr_gt (de_callB cr_len la_len (by rfl) g_len (by decide +kernel) (da_cons (de_ix r1_ (dv 0) de_int) da_nil)) de_int) (de_ix r1_ (de_ix r1_ (dv 0) de_int) (de_bin op_modN lr_mod (dv 2) (de_callB cr_len la_len (by rfl) g_len (by decide +kernel) (da_cons (de_ix r1_ (dv 0) de_int) da_nil)))) de_int))
    (dss_cons (ds_if (DW.dt (dw_and (dt_cmp (op_geG r1_) lr_ge (dv 3) (de_bin op_pow lr_pow de_int de_int)) (dw_and1 (dt_cmp (op_ltG r1_) lr_lt (dv 2) (de_callB cr_len la_len (by rfl) g_len (by decide +kernel) (da_cons (de_ix r1_ (dv 0) de_int) da_nil)))))) (dss_cons (ds_setIx r1_ (de_bin op_fdivN lr_div (dv 3) (dv 1)) (dv 0) de_int)
    (dss_one (ds_ret (de_bin op_modN lr_mod (dv 3) (dv 1))))) dss_nil)
    (dss_cons (ds_set 4 c_.nd (de_bin op_modN lr_mod (de_bin op_pow lr_pow (de_bin op_addAll lr_add (de_bin op_addAll lr_add (de_bin op_modN lr_mod (dv 3) de_int) (de_bin op_mulAll lr_mul de_int (de_ix r1_ (dv 0) de_int))) de_int) de_int) de_int))
    (dss_one (ds_ret (de_bin op_modN lr_mod (de_bin op_fdivN lr_div (de_bin op_modN lr_mod (de_bin op_pow lr_pow (de_bin op_addAll lr_add (dv 4) (de_bin op_mulAll lr_mul de_int (de_ix r1_ (dv 0) de_int))) de_int) de_int) de_int) (dv 1)))))))))))
/-! ### _law_values -/
theorem sc__law_values : FnScope ["_law_feed_here", "_law_wide", "_law_k"] ["_law_feed_here", "_law_wide"] (defScope s__law_values) := ⟨rfl, rfl, rfl, by decide +kernel, rfl, by decide +kernel, by decide +kernel⟩
def t__law_values : DTS := (dRet (dB rdTuple (dCons (dL (fLc (wRg1 (dVar 1)) (.nm 2) dYes (dOp rdSub (dCall noX W__law_draw (dCons (dVar 0) (dCons (dC (.int 4)) dNil))) (dC (.int 1))) [2])) dNil)))
def W__law_values : DSp := fnW ["_law_feed_here", "_law_wide", "_law_k"] ["_law_feed_here", "_law_wide"] fun _ => t__law_values
theorem f__law_values {P : Program} {w : World} {K : PySem.W.Frag} {mg : Str → Option Value} {base : Heap} {T : List (Addr × Str)} {k : Nat} {f : Addr} {fd : FuncData} (F : Fun K "_law_values" "_law_values" s__law_values f fd) (c__law_draw : FnC P w K mg base T k "_law_draw" ["_law_feed_here", "_law_bound"] W__law_draw) (g_range : mg "range" = none) (g_tuple : mg "tuple" = none) :
    FnG P w K mg base T (k + 1) f fd ["_law_feed_here", "_law_wide"] W__law_values := by
  have c_ := sc__law_values
  refine fn_g (k := k) F sc__law_values fun cdv A outer s H E' Γ Ed hcd hΓ hr hg tk => ?_
  have r1_ := room1 hr
  have r64_ := room64 hr
  have r65_ := room65 hr
  exact (dss_one (ds_ret (de_callTy call_tuple_of la_tuple (by rfl) g_tuple (by decide +kernel) (da_cons (DF.toDE (df_lc (by rfl) c_.nd (dw_rg1 (by rfl) g_range (dv 1)) (own := [("_law_k", 2)]) (show BlkOk ["_law_feed_here", "_law_wide", "_law_k"] (defScope s__law_values) _ _ from blkOk_by (by decide +kernel)) (fun _ _ _ _ _ => (dg_nm 2 c_.nd)) (by decide) (fun Γ' hΓ1 _ _ _ _ _ => have hΓ := hΓ1.trans hΓ; dts_nil) (fun Γ' hΓ1 _ _ _ _ _ => have hΓ := hΓ1.trans hΓ; (de_bin op_sub lr_sub (de_fn hΓ c__law_draw hr hg takes_no (da_cons (dv 0) (da_cons de_int da_nil))) de_int)))) da_nil))))
/-! ### _law_deed -/
theorem sc__law_deed : FnScope ["_law_feed_here", "_law_wide", "_law_begun", "_law_writer", "_law_way", "_law_name", "_law_line_here"] ["_law_feed_here", "_law_wide", "_law_begun"] (defScope s__law_deed) := ⟨rfl, rfl, rfl, by decide +kernel, rfl, by decide +kernel, by decide +kernel⟩
def t__law_deed : DTS := (dSeq (dPar 4 3 (dCons (dCall noX W__law_draw (dCons (dVar 0) (dCons (dC (.int 40)) dNil))) (dCons (dOp rdSub (dOp rdSub (dOp rdIx (dVar 2) (dC (.int 0))) (dC (.int 1))) (dCall noX W__law_draw (dCons (dVar 0) (dCons (dC (.int 4)) dNil)))) dNil)))
  (dSeq (dAsg (dIf (dOr (dTest (dOp rdLt (dVar 3) (dC (.int 0)))) (dTest (dOp rdEq (dCall noX W__law_draw (dCons (dVar 0) (dCons (dC (.int 6)) dNil))) (dC (.int 0))))) (dCall noX W__law_draw (dCons (dVar 0) (dCons (dOp rdAdd (dOp rdIx (dVar 2) (dC (.int 0))) (dC (.int 1))) dNil))) (dVar 3)) (.nm 3))
  (dSeq (dPar 5 6 (dCons (dOp rdIx (dL (fLst (dCons (dC (.str "a")) (dCons (dC (.str "b")) (dCons (dC (.str "zz")) dNil))))) (dCall noX W__law_draw (dCons (dVar 0) (dCons (dC (.int 3)) dNil)))) (dCons (dCall noX W__law_draw (dCons (dVar 0) (dCons (dC (.int 6)) dNil))) dNil)))
  (dSeq (dIfS (dAnd (dTest (dOp rdLt (dVar 4) (dC (.int 5)))) (dTest (dOp rdLt (dOp rdIx (dVar 2) (dC (.int 0))) (dC (.int 18))))) (dSeq (dSetIx (dOp rdAdd (dOp rdIx (dVar 2) (dC (.int 0))) (dC (.int 1))) (dVar 2) (dC (.int 0)))
  (dRet (dTup (dCons (dC (.str "begin")) dNil)))) dNext)
  (dSeq (dIfS (dTest (dOp rdLt (dVar 4) (dC (.int 13)))) (dRet (dTup (dCons (dC (.str "put")) (dCons (dVar 3) (dCons (dCall noX W__law_values (dCons (dVar 0) (dCons (dVar 1) dNil))) dNil))))) dNext)
  (dSeq (dIfS (dTest (dOp rdLt (dVar 4) (dC (.int 19)))) (dRet (dTup (dCons (dC (.str "turn")) (dCons (dVar 3) (dCons (dVar 6) (dCons (dCall noX W__law_values (dCons (dVar 0) (dCons (dVar 1) dNil))) dNil)))))) dNext)
  (dSeq (dIfS (dTest (dOp rdLt (dVar 4) (dC (.int 21)))) (dRet (dTup (dCons (dC (.str "strike")) (dCons (dVar 3) (dCons (dVar 6) dNil))))) dNext)
  (dSeq (dIfS (dTest (dOp rdLt (dVar 4) (dC (.int 27)))) (dRet (dTup (dCons (dOp rdIx (dL (fLst (dCons (dC (.str "done")) (dCons (dC (.str "done")) (dCons (dC (.str "gone")) dNil))))) (dOp rdMod (dVar 4) (dC (.int 3)))) (dCons (dVar 3) dNil)))) dNext)
  (dSeq (dIfS (dTest (dOp rdLt (dVar 4) (dC (.int 29)))) (dRet (dTup (dCons (dC (.str "build")) (dCons (dVar 5) (dCons (dCall noX W__law_draw (dCons (dVar 0) (dCons (dVar 1) dNil))) (dCons (dOp rdEq (dCall noX W__law_draw (dCons (dVar 0) (dCons (dC (.int 2)) dNil))) (dC (.int 0))) dNil)))))) dNext)
  (dSeq (dIfS (dTest (dOp rdLt (dVar 4) (dC (.int 36)))) (dRet (dTup (dCons (dC (.str "step")) (dCons (dVar 5) (dCons (dOp rdIx (dL (fLst (dCons (dC (.int 1)) (dCons (dC (.int 4)) (dCons (dC (.int 40)) dNil))))) (dCall noX W__law_draw (dCons (dVar 0) (dCons (dC (.int 3)) dNil)))) dNil))))) dNext)
  (dSeq (dIfS (dTest (dOp rdEq (dVar 4) (dC (.int 36)))) (dRet (dOp rdIx (dL (fLst (dCons (dTup (dCons (dC (.str "leave")) (dCons (dVar 5) dNil))) (dCons (dTup (dCons (dC (.str "drop")) (dCons (dVar 5) dNil))) (dCons (dTup (dCons (dC (.str "drop")) (dCons (dVar 5) dNil))) dNil))))) (dCall noX W__law_draw (dCons (dVar 0) (dCons (dC (.int 3)) dNil))))) dNext)
  (dRet (dIf (dOr (dTest (dOp rdLt (dVar 4) (dC (.int 39)))) (dTest (dOp rdGt (dCall noX W__law_draw (dCons (dVar 0) (dCons (dC (.int 4)) dNil))) (dC (.int 0))))) (dTup (dCons (dC (.str "clean")) dNil)) (dTup (dCons (dC (.str "crash")) dNil)))))))))))))))
def W__law_deed : DSp := fnW ["_law_feed_here", "_law_wide", "_law_begun", "_law_writer", "_law_way", "_law_name", "_law_line_here"] ["_law_feed_here", "_law_wide", "_law_begun"] fun _ => t__law_deed
theorem f__law_deed {P : Program} {w : World} {K : PySem.W.Frag} {mg : Str → Option Value} {base : Heap} {T : List (Addr × Str)} {k : Nat} {f : Addr} {fd : FuncData} (F : Fun K "_law_deed" "_law_deed" s__law_deed f fd) (c__law_draw : FnC P w K mg base T k "_law_draw" ["_law_feed_here", "_law_bound"] W__law_draw) (c__law_values : FnC P w K mg base T k "_law_values" ["_law_feed_here", "_law_wide"] W__law_values) :
    FnG P w K mg base T (k + 1) f fd ["_law_feed_here", "_law_wide", "_law_begun"] W__law_deed := by
  have c_ := sc__law_deed
  refine fn_g (k := k) F sc__law_deed fun cdv A outer s H E' Γ Ed hcd hΓ hr hg tk => ?_
  have r1_ := room1 hr
  have r64_ := room64 hr
  have r65_ := room65 hr
  exact (dss_cons (ds_par (by rfl) c_.nd (da_cons (de_fn hΓ c__law_draw hr hg takes_no (da_cons (dv 0) (da_cons de_int da_nil))) (da_cons (de_bin op_sub lr_sub (de_bin op_sub lr_sub (de_ix r1_ (dv 2) de_int) de_int) (de_fn hΓ c__law_draw hr hg takes_no (da_cons (dv 0) (da_cons de_int da_nil)))) da_nil)))
    (dss_cons (ds_set 3 c_.nd (de_ifExp (DW.dt (dw_or (dt_cmp (op_ltG r1_) lr_lt (dv 3) de_int) (dw_or1 (dt_cmp (op_eqA r64_) lr_eq (de_fn hΓ c__law_draw hr hg takes_no (da_cons (dv 0) (da_cons de_int da_nil))) de_int)))) (de_fn hΓ c__law_draw hr hg takes_no (da_cons (dv 0) (da_cons (de_bin op_addAll lr_add (de_ix r1_ (dv 2) de_int) de_int) da_nil))) (dv 3)))
    (dss_cons (ds_par (by rfl) c_.nd (da_cons (de_ix r1_ (DF.toDE (df_lst (da_cons de_str (da_cons de_str (da_cons de_str da_nil))))) (de_fn hΓ c__law_draw hr hg takes_no (da_cons (dv 0) (da_cons de_int da_nil)))) (da_cons (de_fn hΓ c__law_draw hr hg takes_no (da_cons (dv 0) (da_cons de_int da_nil))) da_nil)))
    (dss_cons (ds_if (DW.dt (dw_and (dt_cmp (op_ltG r1_) lr_lt (dv 4) de_int) (dw_and1 (dt_cmp (op_ltG r1_) lr_lt (de_ix r1_ (dv 2) de_int) de_int)))) (dss_cons (ds_setIx r1_ (de_bin op_addAll lr_add (de_ix r1_ (dv 2) de_int) de_int) (dv 2) de_int)
    (dss_one (ds_ret (de_tup (da_cons de_str da_nil))))) dss_nil)
    (dss_cons (ds_if (dt_cmp (op_ltG r1_) lr_lt (dv 4) de_int) (dss_one (ds_ret (de_tup (da_cons de_str (da_cons (dv 3) (da_cons (de_fn hΓ c__law_values hr hg takes_no (da_cons (dv 0) (da_cons (dv 1) da_nil))) da_nil)))))) dss_nil)
    (dss_cons (ds_if (dt_cmp (op_ltG r1_) lr_lt (dv 4) de_int) (dss_one (ds_ret (de_tup (da_cons de_str (da_cons (dv 3) (da_cons (dv 6) (da_cons (de_fn hΓ c__law_values hr hg takes_no (da_cons (dv 0) (da_cons (dv 1) da_nil))) da_nil))))))) dss_nil)
    (dss_cons (ds_if (dt_cmp (op_ltG r1_) lr_lt (dv 4) de_int) (dss_one (ds_ret (de_tup (da_cons de_str (da_cons (dv 3) (da_cons (dv 6) da_nil)))))) dss_nil)
    (dss_cons (ds_if (dt_cmp (op_ltG r1_) lr_lt (dv 4) de_int) (dss_one (ds_ret (de_tup (da_cons (de_ix r1_ (DF.toDE (df_lst (da_cons de_str (da_cons de_str (da_cons de_str da_nil))))) (de_bin op_modN lr_mod (dv 4) de_int)) (da_cons (dv 3) da_nil))))) dss_nil)
    (dss_cons (ds_if (dt_cmp (op_ltG r1_) lr_lt (dv 4) de_int) (dss_one (ds_ret (de_tup (da_cons de_str (da_cons (dv 5) (da_cons (de_fn hΓ c__law_draw hr hg takes_no (da_cons (dv 0) (da_cons (dv 1) da_nil))) (da_cons (de_cmp (op_eqA r64_) lr_eq (de_fn hΓ c__law_draw hr hg takes_no (da_cons (dv 0) (da_cons de_int da_nil))) de_int) da_nil))))))) dss_nil)
    (dss_cons (ds_if (dt_cmp (op_ltG r1_) lr_lt (dv 4) de_int) (dss_one (ds_ret (de_tup (da_cons de_str (da_cons (dv 5) (da_cons (de_ix r1_ (DF.toDE (df_lst (da_cons de_int (da_cons de_int (da_cons de_int da_nil))))) (de_fn hΓ c__law_draw hr hg takes_no (da_cons (dv 0) (da_cons de_int da_nil)))) da_nil)))))) dss_nil)
    (dss_cons (ds_if (dt_cmp (op_eqA r64_) lr_eq (dv 4) de_int) (dss_one (ds_ret (de_ix r1_ (DF.toDE (df_lst (da_cons (de_tup (da_cons de_str (da_cons (dv 5) da_nil))) (da_cons (de_tup (da_cons de_str (da_cons (dv 5) da_nil))) (da_cons (de_tup (da_cons de_str (da_cons (dv 5) da_nil))) da_nil))))) (de_fn hΓ c__law_draw hr hg takes_no (da_cons (dv 0) (da_cons de_int da_nil)))))) dss_nil)
    (dss_one (ds_ret (de_ifExp (DW.dt (dw_or (dt_cmp (op_ltG r1_) lr_lt (dv 4) de_int) (dw_or1 (dt_cmp (op_gtG r1_) lr_gt (de_fn hΓ c__law_draw hr hg takes_no (da_cons (dv 0) (da_cons de_int da_nil))) de_int)))) (de_tup (da_cons de_str da_nil)) (de_tup (da_cons de_str da_nil))))))))))))))))
/-! ### _law_opening -/
theorem sc__law_opening : FnScope ["_law_feed_here", "_law_wide", "_law_found", "_law_k"] ["_law_feed_here", "_law_wide"] (defScope s__law_opening) := ⟨rfl, rfl, rfl, by decide +kernel, rfl, by decide +kernel, by decide +kernel⟩
def t__law_opening : DTS := (dSeq (dAsg (dOp rdAdd (dL (fLst (dCons (dTup (dCons (dC (.str "begin")) dNil)) dNil))) (dL (fLc (wRg1 (dC (.int 3))) (.nm 3) dYes (dTup (dCons (dC (.str "put")) (dCons (dC (.int 0)) (dCons (dCall noX W__law_values (dCons (dVar 0) (dCons (dVar 1) dNil))) dNil)))) [3]))) (.nm 2))
  (dSeq (dAsg (dOp rdAdd (dVar 2) (dL (fLst (dCons (dTup (dCons (dC (.str "done")) (dCons (dC (.int 0)) dNil))) (dCons (dTup (dCons (dC (.str "build")) (dCons (dC (.str "a")) (dCons (dC (.int 0)) (dCons (dOp rdEq (dCall noX W__law_draw (dCons (dVar 0) (dCons (dC (.int 3)) dNil))) (dC (.int 0))) dNil))))) (dCons (dTup (dCons (dC (.str "step")) (dCons (dC (.str "a")) (dCons (dC (.int 40)) dNil)))) (dCons (dTup (dCons (dC (.str "step")) (dCons (dC (.str "a")) (dCons (dC (.int 40)) dNil)))) dNil))))))) (.nm 2))
  (dSeq (dAsg (dOp rdAdd (dVar 2) (dL (fLst (dCons (dTup (dCons (dC (.str "step")) (dCons (dC (.str "a")) (dCons (dC (.int 40)) dNil)))) (dCons (dTup (dCons (dC (.str "step")) (dCons (dC (.str "a")) (dCons (dC (.int 40)) dNil)))) (dCons (dTup (dCons (dC (.str "begin")) dNil)) (dCons (dTup (dCons (dC (.str "put")) (dCons (dC (.int 1)) (dCons (dCall noX W__law_values (dCons (dVar 0) (dCons (dVar 1) dNil))) dNil)))) dNil))))))) (.nm 2))
  (dRet (dOp rdAdd (dVar 2) (dL (fLst (dCons (dTup (dCons (dC (.str "build")) (dCons (dC (.str "b")) (dCons (dCall noX W__law_draw (dCons (dVar 0) (dCons (dVar 1) dNil))) (dCons (dOp rdEq (dCall noX W__law_draw (dCons (dVar 0) (dCons (dC (.int 2)) dNil))) (dC (.int 0))) dNil))))) (dCons (dTup (dCons (dC (.str "begin")) dNil)) dNil)))))))))
def W__law_opening : DSp := fnW ["_law_feed_here", "_law_wide", "_law_found", "_law_k"] ["_law_feed_here", "_law_wide"] fun _ => t__law_opening
theorem f__law_opening {P : Program} {w : World} {K : PySem.W.Frag} {mg : Str → Option Value} {base : Heap} {T : List (Addr × Str)} {k : Nat} {f : Addr} {fd : FuncData} (F : Fun K "_law_opening" "_law_opening" s__law_opening f fd) (c__law_draw : FnC P w K mg base T k "_law_draw" ["_law_feed_here", "_law_bound"] W__law_draw) (c__law_values : FnC P w K mg base T k "_law_values" ["_law_feed_here", "_law_wide"] W__law_values) (g_range : mg "range" = none) :
    FnG P w K mg base T (k + 1) f fd ["_law_feed_here", "_law_wide"] W__law_opening := by
  have c_ := sc__law_opening
  refine fn_g (k := k) F sc__law_opening fun cdv A outer s H E' Γ Ed hcd hΓ hr hg tk => ?_
  have r1_ := room1 hr
  have r64_ := room64 hr
  have r65_ := room65 hr
  exact (dss_cons (ds_set 2 c_.nd (de_bin op_addAll lr_add (DF.toDE (df_lst (da_cons (de_tup (da_cons de_str da_nil)) da_nil))) (DF.toDE (df_lc (by rfl) c_.nd (dw_rg1 (by rfl) g_range de_int) (own := [("_law_k", 3)]) (show BlkOk ["_law_feed_here", "_law_wide", "_law_found", "_law_k"] (defScope s__law_opening) _ _ from blkOk_by (by decide +kernel)) (fun _ _ _ _ _ => (dg_nm 3 c_.nd)) (by decide) (fun Γ' hΓ1 _ _ _ _ _ => have hΓ := hΓ1.trans hΓ; dts_nil) (fun Γ' hΓ1 _ _ _ _ _ => have hΓ := hΓ1.trans hΓ; (de_tup (da_cons de_str (da_cons de_int (da_cons (de_fn hΓ c__law_values hr hg takes_no (da_cons (dv 0) (da_cons (dv 1) da_nil))) da_nil)))))))))
    (dss_cons (ds_set 2 c_.nd (de_bin op_addAll lr_add (dv 2) (DF.toDE (df_lst (da_cons (de_tup (da_cons de_str (da_cons de_int da_nil))) (da_cons (de_tup (da_cons de_str (da_cons de_str (da_cons de_int (da_cons (de_cmp (op_eqA r64_) lr_eq (de_fn hΓ c__law_draw hr hg takes_no (da_cons (dv 0) (da_cons de_int da_nil))) de_int) da_nil))))) (da_cons (de_tup (da_cons de_str (da_cons de_str (da_cons de_int da_nil)))) (da_cons (de_tup (da_cons de_str (da_cons de_str (da_cons de_int da_nil)))) da_nil))))))))
    (dss_cons (ds_set 2 c_.nd (de_bin op_addAll lr_add (dv 2) (DF.toDE (df_lst (da_cons (de_tup (da_cons de_str (da_cons de_str (da_cons de_int da_nil)))) (da_cons (de_tup (da_cons de_str (da_cons de_str (da_cons de_int da_nil)))) (da_cons (de_tup (da_cons de_str da_nil)) (da_cons (de_tup (da_cons de_str (da_cons de_int (da_cons (de_fn hΓ c__law_values hr hg takes_no (da_cons (dv 0) (da_cons (dv 1) da_nil))) da_nil)))) da_nil))))))))
    (dss_one (ds_ret (de_bin op_addAll lr_add (dv 2) (DF.toDE (df_lst (da_cons (de_tup (da_cons de_str (da_cons de_str (da_cons (de_fn hΓ c__law_draw hr hg takes_no (da_cons (dv 0) (da_cons (dv 1) da_nil))) (da_cons (de_cmp (op_eqA r64_) lr_eq (de_fn hΓ c__law_draw hr hg takes_no (da_cons (dv 0) (da_cons de_int da_nil))) de_int) da_nil))))) (da_cons (de_tup (da_cons de_str da_nil)) da_nil))))))))))
/-! ### _law_line -/
theorem sc__law_line : FnScope ["_law_row", "_law_words", "_law_thing", "_law_one"] ["_law_row"] (defScope s__law_line) := ⟨rfl, rfl, rfl, by decide +kernel, rfl, by decide +kernel, by decide +kernel⟩
def t__law_line : DTS := (dSeq (dAsg (dOwn (fLst dNil)) (.nm 1))
  (dSeq (dFor (wSeq (dVar 0)) (.nm 2) (dIfS (dTest (dIsT (dVar 2) "bool")) (dDrop (dML rdAppend (dVar 1) (dCons (dIf (dTest (dVar 2)) (dC (.str "yes")) (dC (.str "no"))) dNil))) (dDrop (dML rdAppend (dVar 1) (dCons (dIf (dTest (dIsT (dVar 2) "tuple")) (dJoin (dC (.str ",")) (dL (fLc (wSeq (dVar 2)) (.nm 3) dYes (dB rdStrA (dCons (dVar 3) dNil)) [3]))) (dB rdStrA (dCons (dVar 2) dNil))) dNil)))))
  (dRet (dJoin (dC (.str " ")) (dVar 1)))))
def W__law_line : DSp := fnW ["_law_row", "_law_words", "_law_thing", "_law_one"] ["_law_row"] fun _ => t__law_line
theorem f__law_line {P : Program} {w : World} {K : PySem.W.Frag} {mg : Str → Option Value} {base : Heap} {T : List (Addr × Str)} {k : Nat} {f : Addr} {fd : FuncData} (F : Fun K "_law_line" "_law_line" s__law_line f fd) (g_isinstance : mg "isinstance" = none) (g_bool : mg "bool" = none) (g_tuple : mg "tuple" = none) (g_str : mg "str" = none) :
    FnG P w K mg base T (k + 1) f fd ["_law_row"] W__law_line := by
  have c_ := sc__law_line
  refine fn_g (k := k) F sc__law_line fun cdv A outer s H E' Γ Ed hcd hΓ hr hg tk => ?_
  have r1_ := room1 hr
  have r64_ := room64 hr
  have r65_ := room65 hr
  exact (dss_cons (ds_set 1 c_.nd (DF.toOwn (df_lst da_nil)))
    (dss_cons (ds_for (passes_of rfl) (by rfl) (dw_seq (dv 0)) (dg_nm 2 c_.nd) (dss_one (ds_if (dt_val (de_isT (n := "bool") (dv 2) (by rfl) g_isinstance (by rfl) g_bool (by decide +kernel))) (dss_one (ds_expr (de_mL PySem.F.plainAttrs_list PySem.F.slot_list_append PySem.F.type_list_append mt_append lm_append (dv 1) (da_cons (de_ifExp (dt_val (dv 2)) de_str de_str) da_nil)))) (dss_one (ds_expr (de_mL PySem.F.plainAttrs_list PySem.F.slot_list_append PySem.F.type_list_append mt_append lm_append (dv 1) (da_cons (de_ifExp (dt_val (de_isT (n := "tuple") (dv 2) (by rfl) g_isinstance (by rfl) g_tuple (by decide +kernel))) (de_join de_str (DF.toDE (df_lc (by rfl) c_.nd (dw_seq (dv 2)) (own := [("_law_one", 3)]) (show BlkOk ["_law_row", "_law_words", "_law_thing", "_law_one"] (defScope s__law_line) _ _ from blkOk_by (by decide +kernel)) (fun _ _ _ _ _ => (dg_nm 3 c_.nd)) (by decide) (fun Γ' hΓ1 _ _ _ _ _ => have hΓ := hΓ1.trans hΓ; dts_nil) (fun Γ' hΓ1 _ _ _ _ _ => have hΓ := hΓ1.trans hΓ; (de_callTy call_strA la_strA (by rfl) g_str (by decide +kernel) (da_cons (dv 3) da_nil)))))) (de_callTy call_strA la_strA (by rfl) g_str (by decide +kernel) (da_cons (dv 2) da_nil))) da_nil)))))))
    (dss_one (ds_ret (de_join de_str (dv 1))))))
/-! ### _law_number_in -/
theorem sc__law_number_in : FnScope ["_law_word", "_law_figures", "_law_sign"] ["_law_word"] (defScope s__law_number_in) := ⟨rfl, rfl, rfl, by decide +kernel, rfl, by decide +kernel, by decide +kernel⟩
def t__law_number_in : DTS := (dSeq (dAsg (dIf (dTest (dOp rdEq (dSl (dVar 0) dNoPart (dPart (dC (.int 1)))) (dC (.str "-")))) (dSl (dVar 0) (dPart (dC (.int 1))) dNoPart) (dVar 0)) (.nm 1))
  (dSeq (dIfS (dOr (dNot (dTest (dChain rdLe rdLe (dC (.int 1)) (dB rdLen (dCons (dVar 1) dNil)) (dC (.int 9))))) (dTest (dOp rdNe (dL (fLc (wTx (dVar 1)) (.nm 2) (dTest (dOp rdNotInTx (dVar 2) (dC (.str "0123456789")))) (dVar 2) [2])) (dL (fLst dNil))))) (dRet (dC .none)) dNext)
  (dSeq (dIfS (dAnd (dTest (dOp rdEq (dOp rdIx (dVar 1) (dC (.int 0))) (dC (.str "0")))) (dOr (dTest (dOp rdNe (dVar 1) (dC (.str "0")))) (dTest (dOp rdNe (dVar 0) (dC (.str "0")))))) (dRet (dC .none)) dNext)
  (dRet (dB rdIntTx (dCons (dVar 0) dNil))))))
def W__law_number_in : DSp := fnW ["_law_word", "_law_figures", "_law_sign"] ["_law_word"] fun _ => t__law_number_in
theorem f__law_number_in {P : Program} {w : World} {K : PySem.W.Frag} {mg : Str → Option Value} {base : Heap} {T : List (Addr × Str)} {k : Nat} {f : Addr} {fd : FuncData} (F : Fun K "_law_number_in" "_law_number_in" s__law_number_in f fd) (g_int : mg "int" = none) (g_len : mg "len" = none) :
    FnG P w K mg base T (k + 1) f fd ["_law_word"] W__law_number_in := by
  have c_ := sc__law_number_in
  refine fn_g (k := k) F sc__law_number_in fun cdv A outer s H E' Γ Ed hcd hΓ hr hg tk => ?_
  have r1_ := room1 hr
  have r64_ := room64 hr
  have r65_ := room65 hr
  exact (dss_cons (ds_set 1 c_.nd (de_ifExp (dt_cmp (op_eqA r64_) lr_eq (de_sl (dv 0) do_none (do_some de_int)) de_str) (de_sl (dv 0) (do_some de_int) do_none) (dv 0)))
    (dss_cons (ds_if (DW.dt (dw_or (dt_not (dt_chain (op_leG r1_) lr_le (op_leG r1_) lr_le de_int (de_callB cr_len la_len (by rfl) g_len (by decide +kernel) (da_cons (dv 1) da_nil)) de_int)) (dw_or1 (dt_cmp (op_neA r64_) lr_ne (DF.toDE (df_lc (by rfl) c_.nd (dw_tx (dv 1)) (own := [("_law_sign", 2)]) (show BlkOk ["_law_word", "_law_figures", "_law_sign"] (defScope s__law_number_in) _ _ from blkOk_by (by decide +kernel)) (fun _ _ _ _ _ => (dg_nm 2 c_.nd)) (by decide) (fun Γ' hΓ1 _ _ _ _ _ => have hΓ := hΓ1.trans hΓ; (dts_one (dt_cmp op_notIn_sign lr_notInTx (dv 2) de_str))) (fun Γ' hΓ1 _ _ _ _ _ => have hΓ := hΓ1.trans hΓ; (dv 2)))) (DF.toDE (df_lst da_nil)))))) (dss_one (ds_ret de_non)) dss_nil)
    (dss_cons (ds_if (DW.dt (dw_and (dt_cmp (op_eqA r64_) lr_eq (de_ix r1_ (dv 1) de_int) de_str) (dw_and1 (DW.dt (dw_or (dt_cmp (op_neA r64_) lr_ne (dv 1) de_str) (dw_or1 (dt_cmp (op_neA r64_) lr_ne (dv 0) de_str))))))) (dss_one (ds_ret de_non)) dss_nil)
    (dss_one (ds_ret (de_callTy call_int_str la_intTx (by rfl) g_int (by decide +kernel) (da_cons (dv 0) da_nil)))))))
/-! ### _law_is_word -/
theorem sc__law_is_word : FnScope ["_law_word", "_law_sign"] ["_law_word"] (defScope s__law_is_word) := ⟨rfl, rfl, rfl, by decide +kernel, rfl, by decide +kernel, by decide +kernel⟩
def t__law_is_word : DTS := (dRet (dAndV (dChain rdLe rdLe (dC (.int 1)) (dB rdLen (dCons (dVar 0) dNil)) (dC (.int 8))) (dOp rdEq (dL (fLc (wTx (dVar 0)) (.nm 1) (dTest (dOp rdNotInTx (dVar 1) (dC (.str "abcdefghijklmnopqrstuvwxyz")))) (dVar 1) [1])) (dL (fLst dNil)))))
def W__law_is_word : DSp := fnW ["_law_word", "_law_sign"] ["_law_word"] fun _ => t__law_is_word
theorem f__law_is_word {P : Program} {w : World} {K : PySem.W.Frag} {mg : Str → Option Value} {base : Heap} {T : List (Addr × Str)} {k : Nat} {f : Addr} {fd : FuncData} (F : Fun K "_law_is_word" "_law_is_word" s__law_is_word f fd) (g_len : mg "len" = none) :
    FnG P w K mg base T (k + 1) f fd ["_law_word"] W__law_is_word := by
  have c_ := sc__law_is_word
  refine fn_g (k := k) F sc__law_is_word fun cdv A outer s H E' Γ Ed hcd hΓ hr hg tk => ?_
  have r1_ := room1 hr
  have r64_ := room64 hr
  have r65_ := room65 hr
  exact (dss_one (ds_ret (de_and (de_chain (op_leG r1_) lr_le (op_leG r1_) lr_le de_int (de_callB cr_len la_len (by rfl) g_len (by decide +kernel) (da_cons (dv 0) da_nil)) de_int) (de_one (de_cmp (op_eqA r64_) lr_eq (DF.toDE (df_lc (by rfl) c_.nd (dw_tx (dv 0)) (own := [("_law_sign", 1)]) (show BlkOk ["_law_word", "_law_sign"] (defScope s__law_is_word) _ _ from blkOk_by (by decide +kernel)) (fun _ _ _ _ _ => (dg_nm 1 c_.nd)) (by decide) (fun Γ' hΓ1 _ _ _ _ _ => have hΓ := hΓ1.trans hΓ; (dts_one (dt_cmp op_notIn_sign lr_notInTx (dv 1) de_str))) (fun Γ' hΓ1 _ _ _ _ _ => have hΓ := hΓ1.trans hΓ; (dv 1)))) (DF.toDE (df_lst da_nil)))))))
/-! ### _law_stands -/
theorem sc__law_stands : FnScope ["_law_form", "_law_word", "_law_wide", "_law_number", "_law_numbers", "_law_part"] ["_law_form", "_law_word", "_law_wide"] (defScope s__law_stands) := ⟨rfl, rfl, rfl, by decide +kernel, rfl, by decide +kernel, by decide +kernel⟩
def t__law_stands : DTS := (dSeq (dIfS (dTest (dOp rdEq (dVar 0) (dC (.str "values")))) (dSeq (dAsg (dL (fLc (wSeq (dSplit (dVar 1) (dC (.str ",")))) (.nm 5) dYes (dCall noX W__law_number_in (dCons (dVar 5) dNil)) [5])) (.nm 4))
  (dRet (dAndV (dOp rdNotInL (dC .none) (dVar 4)) (dAndV (dOp rdLe (dB rdLen (dCons (dVar 4) dNil)) (dC (.int 3))) (dOrV (dOp rdIsN (dVar 2) (dC .none)) (dOp rdEq (dB rdLen (dCons (dVar 4) dNil)) (dVar 2))))))) dNext)
  (dSeq (dIfS (dTest (dOp rdEq (dVar 0) (dC (.str "name")))) (dRet (dCall noX W__law_is_word (dCons (dVar 1) dNil))) dNext)
  (dSeq (dIfS (dTest (dOp rdEq (dVar 0) (dC (.str "truth")))) (dRet (dOp rdInF (dVar 1) (dTup (dCons (dC (.str "yes")) (dCons (dC (.str "no")) dNil))))) dNext)
  (dSeq (dAsg (dCall noX W__law_number_in (dCons (dVar 1) dNil)) (.nm 3))
  (dSeq (dIfS (dOr (dTest (dOp rdIsN (dVar 3) (dC .none))) (dTest (dOp rdEq (dVar 0) (dC (.str "number"))))) (dRet (dOp rdNotN (dVar 3) (dC .none))) dNext)
  (dRet (dAndV (dOp rdGe (dVar 3) (dB rdInt (dCons (dOp rdNe (dVar 0) (dC (.str "figure"))) dNil))) (dOrV (dOp rdNe (dVar 0) (dC (.str "wide"))) (dOp rdLe (dVar 3) (dC (.int 3)))))))))))
def W__law_stands : DSp := fnW ["_law_form", "_law_word", "_law_wide", "_law_number", "_law_numbers", "_law_part"] ["_law_form", "_law_word", "_law_wide"] fun _ => t__law_stands
theorem f__law_stands {P : Program} {w : World} {K : PySem.W.Frag} {mg : Str → Option Value} {base : Heap} {T : List (Addr × Str)} {k : Nat} {f : Addr} {fd : FuncData} (F : Fun K "_law_stands" "_law_stands" s__law_stands f fd) (c__law_number_in : FnC P w K mg base T k "_law_number_in" ["_law_word"] W__law_number_in) (c__law_is_word : FnC P w K mg base T k "_law_is_word" ["_law_word"] W__law_is_word) (g_int : mg "int" = none) (g_len : mg "len" = none) :
    FnG P w K mg base T (k + 1) f fd ["_law_form", "_law_word", "_law_wide"] W__law_stands := by
  have c_ := sc__law_stands
  refine fn_g (k := k) F sc__law_stands fun cdv A outer s H E' Γ Ed hcd hΓ hr hg tk => ?_
  have r1_ := room1 hr
  have r64_ := room64 hr
  have r65_ := room65 hr
  exact (dss_cons (ds_if (dt_cmp (op_eqA r64_) lr_eq (dv 0) de_str) (dss_cons (ds_lc 4 (by rfl) c_.nd (dw_seq (de_split (dv 1) de_str)) (own := [("_law_part", 5)]) (show BlkOk ["_law_form", "_law_word", "_law_wide", "_law_number", "_law_numbers", "_law_part"] (defScope s__law_stands) _ _ from blkOk_by (by decide +kernel)) (fun _ _ _ _ _ => (dg_nm 5 c_.nd)) (by decide) (fun Γ' hΓ1 _ _ _ _ _ => have hΓ := hΓ1.trans hΓ; dts_nil) (fun Γ' hΓ1 _ _ _ _ _ => have hΓ := hΓ1.trans hΓ; (de_fn hΓ c__law_number_in hr hg takes_no (da_cons (dv 5) da_nil))))
    (dss_one (ds_ret (de_and (de_cmp (op_notInG r65_) lr_notInL de_non (dv 4)) (de_and (de_cmp (op_leG r1_) lr_le (de_callB cr_len la_len (by rfl) g_len (by decide +kernel) (da_cons (dv 4) da_nil)) de_int) (de_one (de_or (de_cmp op_isN lr_isN (dv 2) de_non) (de_one (de_cmp (op_eqA r64_) lr_eq (de_callB cr_len la_len (by rfl) g_len (by decide +kernel) (da_cons (dv 4) da_nil)) (dv 2)))))))))) dss_nil)
    (dss_cons (ds_if (dt_cmp (op_eqA r64_) lr_eq (dv 0) de_str) (dss_one (ds_ret (de_fn hΓ c__law_is_word hr hg takes_no (da_cons (dv 1) da_nil)))) dss_nil)
    (dss_cons (ds_if (dt_cmp (op_eqA r64_) lr_eq (dv 0) de_str) (dss_one (ds_ret (de_cmp op_in_seq lr_inF (dv 1) (de_tup (da_cons de_str (da_cons de_str da_nil)))))) dss_nil)
    (dss_cons (ds_set 3 c_.nd (de_fn hΓ c__law_number_in hr hg takes_no (da_cons (dv 1) da_nil)))
    (dss_cons (ds_if (DW.dt (dw_or (dt_cmp op_isN lr_isN (dv 3) de_non) (dw_or1 (dt_cmp (op_eqA r64_) lr_eq (dv 0) de_str)))) (dss_one (ds_ret (de_cmp op_notN lr_notN (dv 3) de_non))) dss_nil)
    (dss_one (ds_ret (de_and (de_cmp (op_geG r1_) lr_ge (dv 3) (de_callTy call_int1 la_int (by rfl) g_int (by decide +kernel) (da_cons (de_cmp (op_neA r64_) lr_ne (dv 0) de_str) da_nil))) (de_one (de_or (de_cmp (op_neA r64_) lr_ne (dv 0) de_str) (de_one (de_cmp (op_leG r1_) lr_le (dv 3) de_int))))))))))))
/-! ### _law_forms -/
theorem sc__law_forms : FnScope ["_law_found"] [] (defScope s__law_forms) := ⟨rfl, rfl, rfl, by decide +kernel, rfl, by decide +kernel, by decide +kernel⟩
def t__law_forms : DTS := (dSeq (dAsg (dDisp (((dC (.str "begin")), (dL (fLst dNil))) :: (((dC (.str "put")), (dL (fLst (dCons (dC (.str "figure")) (dCons (dC (.str "values")) dNil))))) :: (((dC (.str "turn")), (dL (fLst (dCons (dC (.str "figure")) (dCons (dC (.str "number")) (dCons (dC (.str "values")) dNil)))))) :: (((dC (.str "clean")), (dL (fLst dNil))) :: (((dC (.str "crash")), (dL (fLst dNil))) :: [])))))) (.nm 0))
  (dSeq (dDrop (dDUpd (dVar 0) (dDisp (((dC (.str "strike")), (dL (fLst (dCons (dC (.str "figure")) (dCons (dC (.str "number")) dNil))))) :: (((dC (.str "done")), (dL (fLst (dCons (dC (.str "figure")) dNil)))) :: (((dC (.str "gone")), (dL (fLst (dCons (dC (.str "figure")) dNil)))) :: (((dC (.str "leave")), (dL (fLst (dCons (dC (.str "name")) dNil)))) :: [])))))))
  (dSeq (dDrop (dDUpd (dVar 0) (dDisp (((dC (.str "build")), (dL (fLst (dCons (dC (.str "name")) (dCons (dC (.str "figure")) (dCons (dC (.str "truth")) dNil)))))) :: (((dC (.str "step")), (dL (fLst (dCons (dC (.str "name")) (dCons (dC (.str "pace")) dNil))))) :: (((dC (.str "drop")), (dL (fLst (dCons (dC (.str "name")) dNil)))) :: (((dC (.str "store")), (dL (fLst (dCons (dC (.str "wide")) dNil)))) :: [])))))))
  (dRet (dVar 0)))))
def W__law_forms : DSp := fnW ["_law_found"] [] fun _ => t__law_forms
theorem f__law_forms {P : Program} {w : World} {K : PySem.W.Frag} {mg : Str → Option Value} {base : Heap} {T : List (Addr × Str)} {k : Nat} {f : Addr} {fd : FuncData} (F : Fun K "_law_forms" "_law_forms" s__law_forms f fd) :
    FnG P w K mg base T (k + 1) f fd [] W__law_forms := by
  have c_ := sc__law_forms
  refine fn_g (k := k) F sc__law_forms fun cdv A outer s H E' Γ Ed hcd hΓ hr hg tk => ?_
  have r1_ := room1 hr
  have r64_ := room64 hr
  have r65_ := room65 hr
  exact (dss_cons (ds_set 0 c_.nd (de_disp (dps_cons0 de_str (DF.toDE (df_lst da_nil)) (dps_cons0 de_str (DF.toDE (df_lst (da_cons de_str (da_cons de_str da_nil)))) (dps_cons0 de_str (DF.toDE (df_lst (da_cons de_str (da_cons de_str (da_cons de_str da_nil))))) (dps_cons0 de_str (DF.toDE (df_lst da_nil)) (dps_cons0 de_str (DF.toDE (df_lst da_nil)) dps_nil0)))))))
    (dss_cons (ds_expr (de_dupd (dv 0) (de_disp (dps_cons0 de_str (DF.toDE (df_lst (da_cons de_str (da_cons de_str da_nil)))) (dps_cons0 de_str (DF.toDE (df_lst (da_cons de_str da_nil))) (dps_cons0 de_str (DF.toDE (df_lst (da_cons de_str da_nil))) (dps_cons0 de_str (DF.toDE (df_lst (da_cons de_str da_nil))) dps_nil0))))) m1_of))
    (dss_cons (ds_expr (de_dupd (dv 0) (de_disp (dps_cons0 de_str (DF.toDE (df_lst (da_cons de_str (da_cons de_str (da_cons de_str da_nil))))) (dps_cons0 de_str (DF.toDE (df_lst (da_cons de_str (da_cons de_str da_nil)))) (dps_cons0 de_str (DF.toDE (df_lst (da_cons de_str da_nil))) (dps_cons0 de_str (DF.toDE (df_lst (da_cons de_str da_nil))) dps_nil0))))) m1_of))
    (dss_one (ds_ret (dv 0))))))
/-! ### _law_amiss -/
theorem sc__law_amiss : FnScope ["_law_line_here", "_law_may_begin", "_law_wide", "_law_own", "_law_words", "_law_forms_here", "_law_k", "_law_word"] ["_law_line_here", "_law_may_begin", "_law_wide"] (defScope s__law_amiss) := ⟨rfl, rfl, rfl, by decide +kernel, rfl, by decide +kernel, by decide +kernel⟩
def t__law_amiss : DTS := (dSeq (dPar 4 5 (dCons (dSplit (dVar 0) (dC (.str " "))) (dCons (dCall noX W__law_forms dNil) dNil)))
  (dSeq (dIfS (dOr (dTest (dOp rdNotInL (dOp rdIx (dVar 4) (dC (.int 0))) (dVar 5))) (dAnd (dTest (dOp rdEq (dOp rdIx (dVar 4) (dC (.int 0))) (dC (.str "store")))) (dNot (dTest (dVar 1))))) (dRet (dC (.int 0))) dNext)
  (dSeq (dAsg (dOp rdIx (dVar 5) (dOp rdIx (dVar 4) (dC (.int 0)))) (.nm 3))
  (dSeq (dFor (wEnum (dSl (dVar 4) (dPart (dC (.int 1))) dNoPart)) (.tup [6, 7]) (dIfS (dOr (dTest (dOp rdGe (dVar 6) (dB rdLen (dCons (dVar 3) dNil)))) (dNot (dTest (dCall noX W__law_stands (dCons (dOp rdIx (dVar 3) (dVar 6)) (dCons (dVar 7) (dCons (dVar 2) dNil))))))) (dRet (dOp rdAdd (dVar 6) (dC (.int 1)))) dNext))
  (dRet (dIf (dTest (dOp rdLe (dB rdLen (dCons (dVar 4) dNil)) (dB rdLen (dCons (dVar 3) dNil)))) (dB rdLen (dCons (dVar 4) dNil)) (dC .none)))))))
def W__law_amiss : DSp := fnW ["_law_line_here", "_law_may_begin", "_law_wide", "_law_own", "_law_words", "_law_forms_here", "_law_k", "_law_word"] ["_law_line_here", "_law_may_begin", "_law_wide"] fun _ => t__law_amiss
theorem f__law_amiss {P : Program} {w : World} {K : PySem.W.Frag} {mg : Str → Option Value} {base : Heap} {T : List (Addr × Str)} {k : Nat} {f : Addr} {fd : FuncData} (F : Fun K "_law_amiss" "_law_amiss" s__law_amiss f fd) (c__law_stands : FnC P w K mg base T k "_law_stands" ["_law_form", "_law_word", "_law_wide"] W__law_stands) (c__law_forms : FnC P w K mg base T k "_law_forms" [] W__law_forms) (g_len : mg "len" = none) (g_enumerate : mg "enumerate" = none) :
    FnG P w K mg base T (k + 1) f fd ["_law_line_here", "_law_may_begin", "_law_wide"] W__law_amiss := by
  have c_ := sc__law_amiss
  refine fn_g (k := k) F sc__law_amiss fun cdv A outer s H E' Γ Ed hcd hΓ hr hg tk => ?_
  have r1_ := room1 hr
  have r64_ := room64 hr
  have r65_ := room65 hr
  exact (dss_cons (ds_par (by rfl) c_.nd (da_cons (de_split (dv 0) de_str) (da_cons (de_fn0 hΓ c__law_forms hr hg takes_no) da_nil)))
    (dss_cons (ds_if (DW.dt (dw_or (dt_cmp (op_notInG r65_) lr_notInL (de_ix r1_ (dv 4) de_int) (dv 5)) (dw_or1 (DW.dt (dw_and (dt_cmp (op_eqA r64_) lr_eq (de_ix r1_ (dv 4) de_int) de_str) (dw_and1 (dt_not (dt_val (dv 1))))))))) (dss_one (ds_ret de_int)) dss_nil)
    (dss_cons (ds_set 3 c_.nd (de_ix r1_ (dv 5) (de_ix r1_ (dv 4) de_int)))
    (dss_cons (ds_for (passes_of rfl) (by rfl) (dw_enum (by rfl) g_enumerate (de_sl (dv 4) (do_some de_int) do_none)) (dg_tup (by rfl) (dgs_cons (dg_nm 6 c_.nd) (dgs_cons (dg_nm 7 c_.nd) dgs_nil))) (dss_one (ds_if (DW.dt (dw_or (dt_cmp (op_geG r1_) lr_ge (dv 6) (de_callB cr_len la_len (by rfl) g_len (by decide +kernel) (da_cons (dv 3) da_nil))) (dw_or1 (dt_not (dt_val (de_fn hΓ c__law_stands hr hg takes_no (da_cons (de_ix r1_ (dv 3) (dv 6)) (da_cons (dv 7) (da_cons (dv 2) da_nil))))))))) (dss_one (ds_ret (de_bin op_addAll lr_add (dv 6) de_int))) dss_nil)))
    (dss_one (ds_ret (de_ifExp (dt_cmp (op_leG r1_) lr_le (de_callB cr_len la_len (by rfl) g_len (by decide +kernel) (da_cons (dv 4) da_nil)) (de_callB cr_len la_len (by rfl) g_len (by decide +kernel) (da_cons (dv 3) da_nil))) (de_callB cr_len la_len (by rfl) g_len (by decide +kernel) (da_cons (dv 4) da_nil)) de_non)))))))
/-! ### _law_spoilt -/
theorem sc__law_spoilt : FnScope ["_law_feed_here", "_law_line_here", "_law_some", "_law_words", "_law_way", "_law_spot", "_law_sign", "_law_at", "_law_other", "_law_put_in"] ["_law_feed_here", "_law_line_here"] (defScope s__law_spoilt) := ⟨rfl, rfl, rfl, by decide +kernel, rfl, by decide +kernel, by decide +kernel⟩
def t__law_spoilt : DTS := (dSeq (dAsg (dL (fLst (dCons (dC (.str "")) (dCons (dC (.str "-")) (dCons (dC (.str "0")) (dCons (dC (.str "1")) (dCons (dC (.str "00")) (dCons (dC (.str "-0")) (dCons (dC (.str "-1")) (dCons (dC (.str "7")) (dCons (dC (.str "1,2")) (dCons (dC (.str "1,2,3")) (dCons (dC (.str "1,2,3,4")) (dCons (dC (.str "a")) (dCons (dC (.str "a,b")) (dCons (dC (.str "yes")) (dCons (dC (.str "no")) (dCons (dC (.str "store")) dNil)))))))))))))))))) (.nm 2))
  (dSeq (dAsg (dOp rdAdd (dVar 2) (dL (fLst (dCons (dC (.str "put")) (dCons (dC (.str "begin")) (dCons (dC (.str "crash")) (dCons (dC (.str "Ab")) (dCons (dC (.str "abcdefghi")) (dCons (dC (.str "999999999")) (dCons (dC (.str "1000000000")) (dCons (dC (.str "-999999999")) dNil))))))))))) (.nm 2))
  (dSeq (dAsg (dOp rdAdd (dVar 2) (dL (fLst (dCons (dC (.str "1,")) (dCons (dC (.str ",")) (dCons (dC (.str "None")) (dCons (dC (.str "4")) dNil))))))) (.nm 2))
  (dSeq (dAsg (dSplit (dVar 1) (dC (.str " "))) (.nm 3))
  (dSeq (dPar 7 8 (dCons (dCall noX W__law_draw (dCons (dVar 0) (dCons (dB rdLen (dCons (dVar 3) dNil)) dNil))) (dCons (dOp rdIx (dVar 2) (dCall noX W__law_draw (dCons (dVar 0) (dCons (dB rdLen (dCons (dVar 2) dNil)) dNil)))) dNil)))
  (dSeq (dAsg (dCall noX W__law_draw (dCons (dVar 0) (dCons (dC (.int 8)) dNil))) (.nm 4))
  (dSeq (dIfS (dTest (dOp rdLt (dVar 4) (dC (.int 4)))) (dSeq (dAsg (dOp rdIx (dL (fLst (dCons (dL (fLst dNil)) (dCons (dOp rdMul (dL (fLst (dCons (dOp rdIx (dVar 3) (dVar 7)) dNil))) (dC (.int 2))) (dCons (dL (fLst (dCons (dVar 8) dNil))) (dCons (dL (fLst (dCons (dVar 8) (dCons (dOp rdIx (dVar 3) (dVar 7)) dNil)))) dNil)))))) (dVar 4)) (.nm 9))
  (dRet (dJoin (dC (.str " ")) (dOp rdAdd (dOp rdAdd (dSl (dVar 3) dNoPart (dPart (dVar 7))) (dVar 9)) (dSl (dVar 3) (dPart (dOp rdAdd (dVar 7) (dC (.int 1)))) dNoPart))))) dNext)
  (dSeq (dIfS (dTest (dOp rdEq (dVar 4) (dC (.int 4)))) (dRet (dOp rdAdd (dVar 1) (dC (.str " ")))) dNext)
  (dSeq (dAsg (dCall noX W__law_draw (dCons (dVar 0) (dCons (dOp rdAdd (dB rdLen (dCons (dVar 1) dNil)) (dC (.int 1))) dNil))) (.nm 5))
  (dSeq (dAsg (dOp rdIx (dC (.str "a01 -,.9")) (dCall noX W__law_draw (dCons (dVar 0) (dCons (dC (.int 8)) dNil)))) (.nm 6))
  (dRet (dOp rdAdd (dOp rdAdd (dSl (dVar 1) dNoPart (dPart (dVar 5))) (dOp rdIx (dL (fLst (dCons (dVar 6) (dCons (dC (.str "")) (dCons (dVar 6) dNil))))) (dOp rdSub (dVar 4) (dC (.int 5))))) (dSl (dVar 1) (dPart (dOp rdAdd (dVar 5) (dB rdInt (dCons (dOp rdGt (dVar 4) (dC (.int 5))) dNil)))) dNoPart)))))))))))))
def W__law_spoilt : DSp := fnW ["_law_feed_here", "_law_line_here", "_law_some", "_law_words", "_law_way", "_law_spot", "_law_sign", "_law_at", "_law_other", "_law_put_in"] ["_law_feed_here", "_law_line_here"] fun _ => t__law_spoilt
theorem f__law_spoilt {P : Program} {w : World} {K : PySem.W.Frag} {mg : Str → Option Value} {base : Heap} {T : List (Addr × Str)} {k : Nat} {f : Addr} {fd : FuncData} (F : Fun K "_law_spoilt" "_law_spoilt" s__law_spoilt f fd) (c__law_draw : FnC P w K mg base T k "_law_draw" ["_law_feed_here", "_law_bound"] W__law_draw) (g_int : mg "int" = none) (g_len : mg "len" = none) :
    FnG P w K mg base T (k + 1) f fd ["_law_feed_here", "_law_line_here"] W__law_spoilt := by
  have c_ := sc__law_spoilt
  refine fn_g (k := k) F sc__law_spoilt fun cdv A outer s H E' Γ Ed hcd hΓ hr hg tk => ?_
  have r1_ := room1 hr
  have r64_ := room64 hr
  have r65_ := room65 hr
  exact (dss_cons (ds_set 2 c_.nd (DF.toDE (df_lst (da_cons de_str (da_cons de_str (da_cons de_str (da_cons de_str (da_cons de_str (da_cons de_str (da_cons de_str (da_cons de_str (da_cons de_str (da_cons de_str (da_cons de_str (da_cons de_str (da_cons de_str (da_cons de_str (da_cons de_str (da_cons de_str da_nil)))))))))))))))))))
    (dss_cons (ds_set 2 c_.nd (de_bin op_addAll lr_add (dv 2) (DF.toDE (df_lst (da_cons de_str (da_cons de_str (da_cons de_str (da_cons de_str (da_cons de_str (da_cons de_str (da_cons de_str (da_cons de_str da_nil))))))))))))
    (dss_cons (ds_set 2 c_.nd (de_bin op_addAll lr_add (dv 2) (DF.toDE (df_lst (da_cons de_str (da_cons de_str (da_cons de_str (da_cons de_str da_nil))))))))
    (dss_cons (ds_set 3 c_.nd (de_split (dv 1) de_str))
    (dss_cons (ds_par (by rfl) c_.nd (da_cons (de_fn hΓ c__law_draw hr hg takes_no (da_cons (dv 0) (da_cons (de_callB cr_len la_len (by rfl) g_len (by decide +kernel) (da_cons (dv 3) da_nil)) da_nil))) (da_cons (de_ix r1_ (dv 2) (de_fn hΓ c__law_draw hr hg takes_no (da_cons (dv 0) (da_cons (de_callB cr_len la_len (by rfl) g_len (by decide +kernel) (da_cons (dv 2) da_nil)) da_nil)))) da_nil)))
    (dss_cons (ds_set 4 c_.nd (de_fn hΓ c__law_draw hr hg takes_no (da_cons (dv 0) (da_cons de_int da_nil))))
    (dss_cons (ds_if (dt_cmp (op_ltG r1_) lr_lt (dv 4) de_int) (dss_cons (ds_set 9 c_.nd (de_ix r1_ (DF.toDE (df_lst (da_cons (DF.toDE (df_lst da_nil)) (da_cons (de_bin op_mulAll lr_mul (DF.toDE (df_lst (da_cons (de_ix r1_ (dv 3) (dv 7)) da_nil))) de_int) (da_cons (DF.toDE (df_lst (da_cons (dv 8) da_nil))) (da_cons (DF.toDE (df_lst (da_cons (dv 8) (da_cons (de_ix r1_ (dv 3) (dv 7)) da_nil)))) da_nil)))))) (dv 4)))
    (dss_one (ds_ret (de_join de_str (de_bin op_addAll lr_add (de_bin op_addAll lr_add (de_sl (dv 3) do_none (do_some (dv 7))) (dv 9)) (de_sl (dv 3) (do_some (de_bin op_addAll lr_add (dv 7) de_int)) do_none)))))) dss_nil)
    (dss_cons (ds_if (dt_cmp (op_eqA r64_) lr_eq (dv 4) de_int) (dss_one (ds_ret (de_bin op_addAll lr_add (dv 1) de_str))) dss_nil)
    (dss_cons (ds_set 5 c_.nd (de_fn hΓ c__law_draw hr hg takes_no (da_cons (dv 0) (da_cons (de_bin op_addAll lr_add (de_callB cr_len la_len (by rfl) g_len (by decide +kernel) (da_cons (dv 1) da_nil)) de_int) da_nil))))
    (dss_cons (ds_set 6 c_.nd (de_ix r1_ de_str (de_fn hΓ c__law_draw hr hg takes_no (da_cons (dv 0) (da_cons de_int da_nil)))))
    (dss_one (ds_ret (de_bin op_addAll lr_add (de_bin op_addAll lr_add (de_sl (dv 1) do_none (do_some (dv 5))) (de_ix r1_ (DF.toDE (df_lst (da_cons (dv 6) (da_cons de_str (da_cons (dv 6) da_nil))))) (de_bin op_sub lr_sub (dv 4) de_int))) (de_sl (dv 1) (do_some (de_bin op_addAll lr_add (dv 5) (de_callTy call_int1 la_int (by rfl) g_int (by decide +kernel) (da_cons (de_cmp (op_gtG r1_) lr_gt (dv 4) de_int) da_nil)))) do_none))))))))))))))
/-! ### _law_told -/
theorem sc__law_told : FnScope ["_law_reader", "_law_thing", "_law_found", "e", "_law_others"] ["_law_reader", "_law_thing"] (defScope s__law_told) := ⟨rfl, rfl, rfl, by decide +kernel, rfl, by decide +kernel, by decide +kernel⟩
def ws__law_told : List (Str × DSp) := [("read_row", W_read_row), ("read_log", W_read_log)]
def t__law_told (fa_ : Str → Addr) : DTS := (dSeq (dAsg (dC .none) (.nm 2))
  (dSeq (dTryAs kt "StoreError" 3 (fun E => (dDrop (dCallV E fa_ ws__law_told 0 (dCons (dVar 1) dNil)))) (fun a_ y_ => (dSeq (dAsg (dTup (dCons (dC (.str "odd")) dNil)) (.nm 2))
  (dSeq (dAsg (dIsXT kt 3 a_ y_ "LackError" ["NoPaper", "NoRow", "NoUnique", "NoUse", "NoWrite", "Ring", "Waits"]) (.nm 4))
  (dIfS (dAnd (dTest (dIsX kt 3 a_ y_ "NoText")) (dAnd (dTest (dIsX kt 3 a_ y_ "ValueError")) (dNot (dTest (dVar 4))))) (dAsg (dTup (dCons (dXf xt 3 a_ y_ "row") (dCons (dXf xt 3 a_ y_ "word") dNil))) (.nm 2)) dNext)))) noX)
  (dRet (dVar 2))))
def W__law_told (fa_ : Str → Addr) : DSp := fnW ["_law_reader", "_law_thing", "_law_found", "e", "_law_others"] ["_law_reader", "_law_thing"] fun _ => t__law_told fa_
theorem f__law_told {P : Program} {w : World} {K : PySem.W.Frag} {mg : Str → Option Value} {base : Heap} {T : List (Addr × Str)} {k : Nat} {f : Addr} {fd : FuncData} (F : Fun K "_law_told" "_law_told" s__law_told f fd) (c_read_row : FnC P w K mg base T k "read_row" ["text"] W_read_row) (c_read_log : FnC P w K mg base T k "read_log" ["lines"] W_read_log) (g_isinstance : mg "isinstance" = none) (g_ValueError : mg "ValueError" = none) (m_StoreError : mg "StoreError" = some (.ref (He.ga K "StoreError"))) (m_NoText : mg "NoText" = some (.ref (He.ga K "NoText"))) (m_Waits : mg "Waits" = some (.ref (He.ga K "Waits"))) (m_Ring : mg "Ring" = some (.ref (He.ga K "Ring"))) (m_NoWrite : mg "NoWrite" = some (.ref (He.ga K "NoWrite"))) (m_NoUse : mg "NoUse" = some (.ref (He.ga K "NoUse"))) (m_NoUnique : mg "NoUnique" = some (.ref (He.ga K "NoUnique"))) (m_NoRow : mg "NoRow" = some (.ref (He.ga K "NoRow"))) (m_NoPaper : mg "NoPaper" = some (.ref (He.ga K "NoPaper"))) (m_LackError : mg "LackError" = some (.ref (He.ga K "LackError"))) (kit_ : KitE K kt xt) (m_read_row : mg "read_row" = some (.ref (He.ga K "read_row"))) (m_read_log : mg "read_log" = some (.ref (He.ga K "read_log"))) :
    FnG P w K mg base T (k + 1) f fd ["_law_reader", "_law_thing"] (W__law_told (He.ga K)) := by
  have c_ := sc__law_told
  refine fn_g (k := k) F sc__law_told fun cdv A outer s H E' Γ Ed hcd hΓ hr hg tk => ?_
  have r1_ := room1 hr
  have r64_ := room64 hr
  have r65_ := room65 hr
  exact (dss_cons (ds_set 2 c_.nd de_non)
    (dss_cons (ds_tryAs 3 (by rfl) (by rfl) c_.nd (names_own m_StoreError) (fun c b e => kit_.exm c _ b e) takes_no
      (fun Γ1 hΓ1 Ed pn xe tk _ => have hΓ := hΓ1.trans hΓ; (dss_one (ds_expr (de_callV hΓ (fnvs_cons (c_read_row.v m_read_row) (fnvs_cons (c_read_log.v m_read_log) fnvs_nil)) hr hg tk (dv 0) (da_cons (dv 1) da_nil)))))
      (fun Γ1 hΓ1 a_ oe_ y_ d_ pn hz hf => have hΓ := hΓ1.trans hΓ; (dss_cons (ds_set 2 c_.nd (de_tup (da_cons de_str da_nil)))
    (dss_cons (ds_set 4 c_.nd (de_isXT 3 kit_ hz hf (by rfl) g_isinstance (dcs_cons (dc_own (by rfl) m_LackError) (dcs_cons (dc_own (by rfl) m_NoPaper) (dcs_cons (dc_own (by rfl) m_NoRow) (dcs_cons (dc_own (by rfl) m_NoUnique) (dcs_cons (dc_own (by rfl) m_NoUse) (dcs_cons (dc_own (by rfl) m_NoWrite) (dcs_cons (dc_own (by rfl) m_Ring) (dcs_cons (dc_own (by rfl) m_Waits) dcs_nil))))))))))
    (dss_one (ds_if (DW.dt (dw_and (dt_val (de_isX 3 kit_ hz hf (by rfl) g_isinstance (dc_own (by rfl) m_NoText))) (dw_and (dt_val (de_isX 3 kit_ hz hf (by rfl) g_isinstance (dc_bt (t := "ValueError") (by rfl) g_ValueError rfl (by decide +kernel)))) (dw_and1 (dt_not (dt_val (dv 4))))))) (dss_one (ds_set 2 c_.nd (de_tup (da_cons (de_xf 3 kit_ hz hf) (da_cons (de_xf 3 kit_ hz hf) da_nil))))) dss_nil))))))
    (dss_one (ds_ret (dv 2)))))
/-! ### _law_log_amiss -/
theorem sc__law_log_amiss : FnScope ["_law_lines", "_law_wide", "_law_at", "_law_line_here", "_law_amiss_here"] ["_law_lines"] (defScope s__law_log_amiss) := ⟨rfl, rfl, rfl, by decide +kernel, rfl, by decide +kernel, by decide +kernel⟩
def t__law_log_amiss : DTS := (dSeq (dIfS (dOr (dTest (dOp rdEq (dVar 0) (dL (fLst dNil)))) (dTest (dOp rdNe (dOp rdIx (dSplit (dOp rdIx (dVar 0) (dC (.int 0))) (dC (.str " "))) (dC (.int 0))) (dC (.str "store"))))) (dRet (dTup (dCons (dC (.int 0)) (dCons (dC (.int 0)) dNil)))) dNext)
  (dSeq (dAsg (dC .none) (.nm 1))
  (dSeq (dFor (wEnum (dVar 0)) (.tup [2, 3]) (dSeq (dAsg (dCall noX W__law_amiss (dCons (dVar 3) (dCons (dOp rdEq (dVar 2) (dC (.int 0))) (dCons (dVar 1) dNil)))) (.nm 4))
  (dSeq (dIfS (dTest (dOp rdNotN (dVar 4) (dC .none))) (dRet (dTup (dCons (dVar 2) (dCons (dVar 4) dNil)))) dNext)
  (dIfS (dTest (dOp rdEq (dVar 2) (dC (.int 0)))) (dAsg (dB rdIntTx (dCons (dOp rdIx (dSplit (dVar 3) (dC (.str " "))) (dC (.int 1))) dNil)) (.nm 1)) dNext))))
  (dRet (dC .none)))))
def W__law_log_amiss : DSp := fnW ["_law_lines", "_law_wide", "_law_at", "_law_line_here", "_law_amiss_here"] ["_law_lines"] fun _ => t__law_log_amiss
theorem f__law_log_amiss {P : Program} {w : World} {K : PySem.W.Frag} {mg : Str → Option Value} {base : Heap} {T : List (Addr × Str)} {k : Nat} {f : Addr} {fd : FuncData} (F : Fun K "_law_log_amiss" "_law_log_amiss" s__law_log_amiss f fd) (c__law_amiss : FnC P w K mg base T k "_law_amiss" ["_law_line_here", "_law_may_begin", "_law_wide"] W__law_amiss) (g_enumerate : mg "enumerate" = none) (g_int : mg "int" = none) :
    FnG P w K mg base T (k + 1) f fd ["_law_lines"] W__law_log_amiss := by
  have c_ := sc__law_log_amiss
  refine fn_g (k := k) F sc__law_log_amiss fun cdv A outer s H E' Γ Ed hcd hΓ hr hg tk => ?_
  have r1_ := room1 hr
  have r64_ := room64 hr
  have r65_ := room65 hr
  exact (dss_cons (ds_if (DW.dt (dw_or (dt_cmp (op_eqA r64_) lr_eq (dv 0) (DF.toDE (df_lst da_nil))) (dw_or1 (dt_cmp (op_neA r64_) lr_ne (de_ix r1_ (de_split (de_ix r1_ (dv 0) de_int) de_str) de_int) de_str)))) (dss_one (ds_ret (de_tup (da_cons de_int (da_cons de_int da_nil))))) dss_nil)
    (dss_cons (ds_set 1 c_.nd de_non)
    (dss_cons (ds_for (passes_of rfl) (by rfl) (dw_enum (by rfl) g_enumerate (dv 0)) (dg_tup (by rfl) (dgs_cons (dg_nm 2 c_.nd) (dgs_cons (dg_nm 3 c_.nd) dgs_nil))) (dss_cons (ds_set 4 c_.nd (de_fn hΓ c__law_amiss hr hg takes_no (da_cons (dv 3) (da_cons (de_cmp (op_eqA r64_) lr_eq (dv 2) de_int) (da_cons (dv 1) da_nil)))))
    (dss_cons (ds_if (dt_cmp op_notN lr_notN (dv 4) de_non) (dss_one (ds_ret (de_tup (da_cons (dv 2) (da_cons (dv 4) da_nil))))) dss_nil)
    (dss_one (ds_if (dt_cmp (op_eqA r64_) lr_eq (dv 2) de_int) (dss_one (ds_set 1 c_.nd (de_callTy call_int_str la_intTx (by rfl) g_int (by decide +kernel) (da_cons (de_ix r1_ (de_split (dv 3) de_str) de_int) da_nil)))) dss_nil)))))
    (dss_one (ds_ret de_non)))))
/-! ### _law_lines_spoilt -/
theorem sc__law_lines_spoilt : FnScope ["_law_feed_here", "_law_lines", "_law_at", "_law_to", "_law_way"] ["_law_feed_here", "_law_lines"] (defScope s__law_lines_spoilt) := ⟨rfl, rfl, rfl, by decide +kernel, rfl, by decide +kernel, by decide +kernel⟩
def t__law_lines_spoilt : DTS := (dSeq (dPar3 2 3 4 (dCons (dCall noX W__law_draw (dCons (dVar 0) (dCons (dB rdLen (dCons (dVar 1) dNil)) dNil))) (dCons (dCall noX W__law_draw (dCons (dVar 0) (dCons (dB rdLen (dCons (dVar 1) dNil)) dNil))) (dCons (dCall noX W__law_draw (dCons (dVar 0) (dCons (dC (.int 6)) dNil))) dNil))))
  (dSeq (dIfS (dTest (dOp rdLt (dVar 4) (dC (.int 3)))) (dRet (dOp rdIx (dL (fLst (dCons (dOp rdAdd (dSl (dVar 1) dNoPart (dPart (dVar 2))) (dSl (dVar 1) (dPart (dOp rdAdd (dVar 2) (dC (.int 1)))) dNoPart)) (dCons (dOp rdAdd (dVar 1) (dL (fLst (dCons (dOp rdIx (dVar 1) (dVar 2)) dNil)))) (dCons (dOp rdAdd (dOp rdAdd (dSl (dVar 1) dNoPart (dPart (dVar 2))) (dL (fLst (dCons (dOp rdIx (dVar 1) (dVar 3)) dNil)))) (dSl (dVar 1) (dPart (dOp rdAdd (dVar 2) (dC (.int 1)))) dNoPart)) dNil))))) (dVar 4))) dNext)
  (dRet (dOp rdAdd (dOp rdAdd (dSl (dVar 1) dNoPart (dPart (dVar 2))) (dL (fLst (dCons (dCall noX W__law_spoilt (dCons (dVar 0) (dCons (dOp rdIx (dVar 1) (dVar 2)) dNil))) dNil)))) (dSl (dVar 1) (dPart (dOp rdAdd (dVar 2) (dC (.int 1)))) dNoPart)))))
def W__law_lines_spoilt : DSp := fnW ["_law_feed_here", "_law_lines", "_law_at", "_law_to", "_law_way"] ["_law_feed_here", "_law_lines"] fun _ => t__law_lines_spoilt
theorem f__law_lines_spoilt {P : Program} {w : World} {K : PySem.W.Frag} {mg : Str → Option Value} {base : Heap} {T : List (Addr × Str)} {k : Nat} {f : Addr} {fd : FuncData} (F : Fun K "_law_lines_spoilt" "_law_lines_spoilt" s__law_lines_spoilt f fd) (c__law_spoilt : FnC P w K mg base T k "_law_spoilt" ["_law_feed_here", "_law_line_here"] W__law_spoilt) (c__law_draw : FnC P w K mg base T k "_law_draw" ["_law_feed_here", "_law_bound"] W__law_draw) (g_len : mg "len" = none) :
    FnG P w K mg base T (k + 1) f fd ["_law_feed_here", "_law_lines"] W__law_lines_spoilt := by
  have c_ := sc__law_lines_spoilt
  refine fn_g (k := k) F sc__law_lines_spoilt fun cdv A outer s H E' Γ Ed hcd hΓ hr hg tk => ?_
  have r1_ := room1 hr
  have r64_ := room64 hr
  have r65_ := room65 hr
  exact (dss_cons (ds_par3 (by rfl) c_.nd (da_cons (de_fn hΓ c__law_draw hr hg takes_no (da_cons (dv 0) (da_cons (de_callB cr_len la_len (by rfl) g_len (by decide +kernel) (da_cons (dv 1) da_nil)) da_nil))) (da_cons (de_fn hΓ c__law_draw hr hg takes_no (da_cons (dv 0) (da_cons (de_callB cr_len la_len (by rfl) g_len (by decide +kernel) (da_cons (dv 1) da_nil)) da_nil))) (da_cons (de_fn hΓ c__law_draw hr hg takes_no (da_cons (dv 0) (da_cons de_int da_nil))) da_nil))))
    (dss_cons (ds_if (dt_cmp (op_ltG r1_) lr_lt (dv 4) de_int) (dss_one (ds_ret (de_ix r1_ (DF.toDE (df_lst (da_cons (de_bin op_addAll lr_add (de_sl (dv 1) do_none (do_some (dv 2))) (de_sl (dv 1) (do_some (de_bin op_addAll lr_add (dv 2) de_int)) do_none)) (da_cons (de_bin op_addAll lr_add (dv 1) (DF.toDE (df_lst (da_cons (de_ix r1_ (dv 1) (dv 2)) da_nil)))) (da_cons (de_bin op_addAll lr_add (de_bin op_addAll lr_add (de_sl (dv 1) do_none (do_some (dv 2))) (DF.toDE (df_lst (da_cons (de_ix r1_ (dv 1) (dv 3)) da_nil)))) (de_sl (dv 1) (do_some (de_bin op_addAll lr_add (dv 2) de_int)) do_none)) da_nil))))) (dv 4)))) dss_nil)
    (dss_one (ds_ret (de_bin op_addAll lr_add (de_bin op_addAll lr_add (de_sl (dv 1) do_none (do_some (dv 2))) (DF.toDE (df_lst (da_cons (de_fn hΓ c__law_spoilt hr hg takes_no (da_cons (dv 0) (da_cons (de_ix r1_ (dv 1) (dv 2)) da_nil))) da_nil)))) (de_sl (dv 1) (do_some (de_bin op_addAll lr_add (dv 2) de_int)) do_none))))))
/-! ### law -/
theorem sc_law : FnScope ["_law_script", "_law_feed_here", "_law_deeds", "_law_lines", "_law_line_here", "_law_other", "_law_some", "_law_wide", "_law_begun", "_law_text", "_law_lap", "_law_kept", "_law_amiss_here", "_law_k", "_law_row"] ["_law_script"] (defScope s_law) := ⟨rfl, rfl, rfl, by decide +kernel, rfl, by decide +kernel, by decide +kernel⟩
def t_law (fa_ : Str → Addr) : DTS := (dSeq (dAsg (dCall noX W__law_feed (dCons (dVar 0) dNil)) (.nm 1))
  (dSeq (dUnp (dTupO (dCons (dOp rdAdd (dC (.int 1)) (dCall noX W__law_draw (dCons (dVar 1) (dCons (dC (.int 3)) dNil)))) (dCons (dOwn (fLst (dCons (dC (.int 3)) dNil))) dNil))) [7, 8])
  (dSeq (dAsg (dOp rdAdd (dCall noX W__law_opening (dCons (dVar 1) (dCons (dVar 7) dNil))) (dL (fLc (wRg1 (dC (.int 10))) (.nm 13) dYes (dCall noX W__law_deed (dCons (dVar 1) (dCons (dVar 7) (dCons (dVar 8) dNil)))) [13]))) (.nm 2))
  (dSeq (dAsg (dOp rdAdd (dVar 2) (dL (fLst (dCons (dTup (dCons (dC (.str "turn")) (dCons (dC (.int 0)) (dCons (dOp rdSub (dC (.int 0)) (dC (.int 3))) (dCons (dOp rdMulT (dTup (dCons (dC (.int 7)) dNil)) (dVar 7)) dNil))))) (dCons (dTup (dCons (dC (.str "strike")) (dCons (dC (.int 1)) (dCons (dC (.int 2)) dNil)))) (dCons (dTup (dCons (dC (.str "gone")) (dCons (dC (.int 1)) dNil))) (dCons (dTup (dCons (dC (.str "leave")) (dCons (dC (.str "b")) dNil))) dNil))))))) (.nm 2))
  (dSeq (dAsg (dOp rdAdd (dVar 2) (dL (fLst (dCons (dTup (dCons (dC (.str "clean")) dNil)) (dCons (dTup (dCons (dC (.str "crash")) dNil)) dNil))))) (.nm 2))
  (dSeq (dAsg (dOp rdAdd (dL (fLst (dCons (dOp rdAdd (dC (.str "store ")) (dB rdStrA (dCons (dVar 7) dNil))) dNil))) (dL (fLc (wSeq (dVar 2)) (.nm 14) dYes (dCall noX W__law_line (dCons (dVar 14) dNil)) [14]))) (.nm 3))
  (dSeq (dFor (wSeq (dVar 3)) (.nm 4) (dSeq (dAsg (dVar 4) (.nm 9))
  (dFor (wRg1 (dC (.int 4))) (.nm 10) (dSeq (dAsg (dCall noX W__law_amiss (dCons (dVar 9) (dCons (dC (.bool true)) (dCons (dC .none) dNil)))) (.nm 12))
  (dSeq (dIfS (dTest (dOp rdNe (dB rdRepr (dCons (dCall noX (W__law_told fa_) (dCons (dFn fa_ "read_row") (dCons (dVar 9) dNil))) dNil)) (dB rdRepr (dCons (dIf (dTest (dOp rdIsN (dVar 12) (dC .none))) (dC .none) (dTup (dCons (dC (.int 0)) (dCons (dVar 12) dNil)))) dNil)))) (dRet (dC (.bool false))) dNext)
  (dAsg (dCall noX W__law_spoilt (dCons (dVar 1) (dCons (dVar 9) dNil))) (.nm 9)))))))
  (dSeq (dAsg (dOp rdAdd (dL (fLst (dCons (dOp rdAdd (dC (.str "store ")) (dB rdStrA (dCons (dOp rdAdd (dC (.int 1)) (dOp rdMod (dVar 7) (dC (.int 3)))) dNil))) dNil))) (dSl (dVar 3) (dPart (dC (.int 1))) dNoPart)) (.nm 5))
  (dSeq (dFor (wSeq (dOp rdAdd (dL (fLst (dCons (dL (fLst dNil)) (dCons (dVar 3) (dCons (dSl (dVar 3) (dPart (dC (.int 1))) dNoPart) (dCons (dOp rdAdd (dVar 3) (dSl (dVar 3) dNoPart (dPart (dC (.int 1))))) (dCons (dVar 5) dNil))))))) (dL (fLc (wRg1 (dC (.int 14))) (.nm 13) dYes (dCall noX W__law_lines_spoilt (dCons (dVar 1) (dCons (dVar 3) dNil))) [13])))) (.nm 6) (dSeq (dAsg (dL (fB rfList (dCons (dVar 6) dNil))) (.nm 11))
  (dIfS (dOr (dTest (dOp rdNe (dB rdRepr (dCons (dCall noX (W__law_told fa_) (dCons (dFn fa_ "read_log") (dCons (dVar 6) dNil))) dNil)) (dB rdRepr (dCons (dCall noX W__law_log_amiss (dCons (dVar 6) dNil)) dNil)))) (dTest (dOp rdNe (dVar 6) (dVar 11)))) (dRet (dC (.bool false))) dNext)))
  (dRet (dC (.bool true))))))))))))
def W_law : DSp := fnA ["_law_script", "_law_feed_here", "_law_deeds", "_law_lines", "_law_line_here", "_law_other", "_law_some", "_law_wide", "_law_begun", "_law_text", "_law_lap", "_law_kept", "_law_amiss_here", "_law_k", "_law_row"] ["_law_script"] fun fa_ _ => t_law fa_
theorem f_law {P : Program} {w : World} {K : PySem.W.Frag} {mg : Str → Option Value} {base : Heap} {T : List (Addr × Str)} {k : Nat} {f : Addr} {fd : FuncData} (F : Fun K "law" "law" s_law f fd) (c__law_lines_spoilt : FnC P w K mg base T k "_law_lines_spoilt" ["_law_feed_here", "_law_lines"] W__law_lines_spoilt) (c__law_told : FnC P w K mg base T k "_law_told" ["_law_reader", "_law_thing"] (W__law_told (He.ga K))) (c__law_log_amiss : FnC P w K mg base T k "_law_log_amiss" ["_law_lines"] W__law_log_amiss) (c__law_spoilt : FnC P w K mg base T k "_law_spoilt" ["_law_feed_here", "_law_line_here"] W__law_spoilt) (c__law_amiss : FnC P w K mg base T k "_law_amiss" ["_law_line_here", "_law_may_begin", "_law_wide"] W__law_amiss) (c__law_line : FnC P w K mg base T k "_law_line" ["_law_row"] W__law_line) (c__law_opening : FnC P w K mg base T k "_law_opening" ["_law_feed_here", "_law_wide"] W__law_opening) (c__law_deed : FnC P w K mg base T k "_law_deed" ["_law_feed_here", "_law_wide", "_law_begun"] W__law_deed) (c__law_draw : FnC P w K mg base T k "_law_draw" ["_law_feed_here", "_law_bound"] W__law_draw) (c__law_feed : FnC P w K mg base T k "_law_feed" ["_law_script"] W__law_feed) (g_range : mg "range" = none) (g_repr : mg "repr" = none) (g_list : mg "list" = none) (g_str : mg "str" = none) (m_read_log : mg "read_log" = some (.ref (He.ga K "read_log"))) (m_read_row : mg "read_row" = some (.ref (He.ga K "read_row"))) :
    FnG P w K mg base T (k + 1) f fd ["_law_script"] W_law := by
  have c_ := sc_law
  refine fn_gA (fa := He.ga K) ?_
  refine fn_g (k := k) F sc_law fun cdv A outer s H E' Γ Ed hcd hΓ hr hg tk => ?_
  have r1_ := room1 hr
  have r64_ := room64 hr
  have r65_ := room65 hr
  exact (dss_cons (ds_set 1 c_.nd (de_fn hΓ c__law_feed hr hg takes_no (da_cons (dv 0) da_nil)))
    (dss_cons (ds_unp (de_tupO (da_cons (de_bin op_addAll lr_add de_int (de_fn hΓ c__law_draw hr hg takes_no (da_cons (dv 1) (da_cons de_int da_nil)))) (da_cons (DF.toOwn (df_lst (da_cons de_int da_nil))) da_nil))) (dg_tup (by rfl) (dgs_cons (dg_nm 7 c_.nd) (dgs_cons (dg_nm 8 c_.nd) dgs_nil))))
    (dss_cons (ds_set 2 c_.nd (de_bin op_addAll lr_add (de_fn hΓ c__law_opening hr hg takes_no (da_cons (dv 1) (da_cons (dv 7) da_nil))) (DF.toDE (df_lc (by rfl) c_.nd (dw_rg1 (by rfl) g_range de_int) (own := [("_law_k", 13)]) (show BlkOk ["_law_script", "_law_feed_here", "_law_deeds", "_law_lines", "_law_line_here", "_law_other", "_law_some", "_law_wide", "_law_begun", "_law_text", "_law_lap", "_law_kept", "_law_amiss_here", "_law_k", "_law_row"] (defScope s_law) _ _ from blkOk_by (by decide +kernel)) (fun _ _ _ _ _ => (dg_nm 13 c_.nd)) (by decide) (fun Γ' hΓ1 _ _ _ _ _ => have hΓ := hΓ1.trans hΓ; dts_nil) (fun Γ' hΓ1 _ _ _ _ _ => have hΓ := hΓ1.trans hΓ; (de_fn hΓ c__law_deed hr hg takes_no (da_cons (dv 1) (da_cons (dv 7) (da_cons (dv 8) da_nil)))))))))
    (dss_cons (ds_set 2 c_.nd (de_bin op_addAll lr_add (dv 2) (DF.toDE (df_lst (da_cons (de_tup (da_cons de_str (da_cons de_int (da_cons (de_bin op_sub lr_sub de_int de_int) (da_cons (de_bin op_mulT lr_mulT (de_tup (da_cons de_int da_nil)) (dv 7)) da_nil))))) (da_cons (de_tup (da_cons de_str (da_cons de_int (da_cons de_int da_nil)))) (da_cons (de_tup (da_cons de_str (da_cons de_int da_nil))) (da_cons (de_tup (da_cons de_str (da_cons de_str da_nil))) da_nil))))))))
    (dss_cons (ds_set 2 c_.nd (de_bin op_addAll lr_add (dv 2) (DF.toDE (df_lst (da_cons (de_tup (da_cons de_str da_nil)) (da_cons (de_tup (da_cons de_str da_nil)) da_nil))))))
    (dss_cons (ds_set 3 c_.nd (de_bin op_addAll lr_add (DF.toDE (df_lst (da_cons (de_bin op_addAll lr_add de_str (de_callTy call_strA la_strA (by rfl) g_str (by decide +kernel) (da_cons (dv 7) da_nil))) da_nil))) (DF.toDE (df_lc (by rfl) c_.nd (dw_seq (dv 2)) (own := [("_law_row", 14)]) (show BlkOk ["_law_script", "_law_feed_here", "_law_deeds", "_law_lines", "_law_line_here", "_law_other", "_law_some", "_law_wide", "_law_begun", "_law_text", "_law_lap", "_law_kept", "_law_amiss_here", "_law_k", "_law_row"] (defScope s_law) _ _ from blkOk_by (by decide +kernel)) (fun _ _ _ _ _ => (dg_nm 14 c_.nd)) (by decide) (fun Γ' hΓ1 _ _ _ _ _ => have hΓ := hΓ1.trans hΓ; dts_nil) (fun Γ' hΓ1 _ _ _ _ _ => have hΓ := hΓ1.trans hΓ; (de_fn hΓ c__law_line hr hg takes_no (da_cons (dv 14) da_nil)))))))
    (dss_cons (ds_for (passes_of rfl) (by rfl) (dw_seq (dv 3)) (dg_nm 4 c_.nd) (dss_cons (ds_set 9 c_.nd (dv 4))
    (dss_one (ds_for (passes_of rfl) (by rfl) (dw_rg1 (by rfl) g_range de_int) (dg_nm 10 c_.nd) (dss_cons (ds_set 12 c_.nd (de_fn hΓ c__law_amiss hr hg takes_no (da_cons (dv 9) (da_cons de_bl (da_cons de_non da_nil)))))
    (dss_cons (ds_if (dt_cmp (op_neA r64_) lr_ne (de_callB (cr_repr hg r64_) la_repr (by rfl) g_repr (by decide +kernel) (da_cons (de_fn hΓ c__law_told hr hg takes_no (da_cons (de_fnm m_read_row) (da_cons (dv 9) da_nil))) da_nil)) (de_callB (cr_repr hg r64_) la_repr (by rfl) g_repr (by decide +kernel) (da_cons (de_ifExp (dt_cmp op_isN lr_isN (dv 12) de_non) de_non (de_tup (da_cons de_int (da_cons (dv 12) da_nil)))) da_nil))) (dss_one (ds_ret de_bl)) dss_nil)
    (dss_one (ds_set 9 c_.nd (de_fn hΓ c__law_spoilt hr hg takes_no (da_cons (dv 1) (da_cons (dv 9) da_nil)))))))))))
    (dss_cons (ds_set 5 c_.nd (de_bin op_addAll lr_add (DF.toDE (df_lst (da_cons (de_bin op_addAll lr_add de_str (de_callTy call_strA la_strA (by rfl) g_str (by decide +kernel) (da_cons (de_bin op_addAll lr_add de_int (de_bin op_modN lr_mod (dv 7) de_int)) da_nil))) da_nil))) (de_sl (dv 3) (do_some de_int) do_none)))
    (dss_cons (ds_for (passes_of rfl) (by rfl) (dw_seq (de_bin op_addAll lr_add (DF.toDE (df_lst (da_cons (DF.toDE (df_lst da_nil)) (da_cons (dv 3) (da_cons (de_sl (dv 3) (do_some de_int) do_none) (da_cons (de_bin op_addAll lr_add (dv 3) (de_sl (dv 3) do_none (do_some de_int))) (da_cons (dv 5) da_nil))))))) (DF.toDE (df_lc (by rfl) c_.nd (dw_rg1 (by rfl) g_range de_int) (own := [("_law_k", 13)]) (show BlkOk ["_law_script", "_law_feed_here", "_law_deeds", "_law_lines", "_law_line_here", "_law_other", "_law_some", "_law_wide", "_law_begun", "_law_text", "_law_lap", "_law_kept", "_law_amiss_here", "_law_k", "_law_row"] (defScope s_law) _ _ from blkOk_by (by decide +kernel)) (fun _ _ _ _ _ => (dg_nm 13 c_.nd)) (by decide) (fun Γ' hΓ1 _ _ _ _ _ => have hΓ := hΓ1.trans hΓ; dts_nil) (fun Γ' hΓ1 _ _ _ _ _ => have hΓ := hΓ1.trans hΓ; (de_fn hΓ c__law_lines_spoilt hr hg takes_no (da_cons (dv 1) (da_cons (dv 3) da_nil)))))))) (dg_nm 6 c_.nd) (dss_cons (ds_set 11 c_.nd (DF.toDE (df_callTy call_list_of lf_list (by rfl) g_list (by decide +kernel) (da_cons (dv 6) da_nil))))
    (dss_one (ds_if (DW.dt (dw_or (dt_cmp (op_neA r64_) lr_ne (de_callB (cr_repr hg r64_) la_repr (by rfl) g_repr (by decide +kernel) (da_cons (de_fn hΓ c__law_told hr hg takes_no (da_cons (de_fnm m_read_log) (da_cons (dv 6) da_nil))) da_nil)) (de_callB (cr_repr hg r64_) la_repr (by rfl) g_repr (by decide +kernel) (da_cons (de_fn hΓ c__law_log_amiss hr hg takes_no (da_cons (dv 6) da_nil)) da_nil))) (dw_or1 (dt_cmp (op_neA r64_) lr_ne (dv 6) (dv 11))))) (dss_one (ds_ret de_bl)) dss_nil))))
    (dss_one (ds_ret de_bl)))))))))))
end DL.G
namespace DL.G
open PySem PySem.Spec PyProof.Rows L2
set_option autoImplicit true
local macro_rules | `(tactic| walk_at "hp") => `(tactic| first | assumption | exact put_same | exact (put_other (by assumption)).trans (by assumption) | exact (put_other (Ne.symm (by assumption))).trans (by assumption) | (simp only [put_same, put_other, ne_eq, *]; done))
local macro_rules | `(tactic| walk_at "sh") => `(tactic| first | exact shaped_int _ | exact shaped_none | exact shaped_bool _ | rfl | assumption | exact shaped_ok (n := 8) (by decide) (by assumption))
local macro_rules | `(tactic| walk_at "dl1") => `(tactic| first
  | with_reducible refine e_seq ?_
  | with_reducible refine e_ret ?_
  | with_reducible refine e_asg ?_
  | with_reducible refine k_nm ?_
  | with_reducible refine e_if ?_
  | with_reducible refine e_drop ?_
  | with_reducible refine e_next ?_
  | with_reducible refine e_setIx ?_
  | with_reducible refine e_par ?_
  | with_reducible refine k_par ?_
  | with_reducible refine e_par3 ?_
  | with_reducible refine k_par3 ?_
  | with_reducible refine e_retF ?_
  | with_reducible refine e_for ?_
  | with_reducible refine e_op ?_
  | with_reducible refine e_c ?_
  | ((with_reducible apply e_var); exact rfl)
  | with_reducible refine e_test ?_
  | with_reducible refine k_test ?_
  | with_reducible refine e_and ?_
  | with_reducible refine e_or ?_
  | with_reducible refine e_not ?_
  | with_reducible refine k_not ?_
  | with_reducible refine e_andV ?_
  | with_reducible refine e_orV ?_
  | with_reducible refine e_notV ?_
  | with_reducible refine k_notV ?_
  | with_reducible refine e_ifE ?_
  | with_reducible refine e_nil ?_
  | with_reducible refine e_cons ?_
  | with_reducible refine e_tup ?_
  | ((with_reducible apply k_tup); exact rfl; exact rfl)
  | with_reducible refine e_lst ?_
  | ((with_reducible apply k_lst); exact rfl; exact rfl)
  | with_reducible refine e_L ?_
  | with_reducible refine e_Own ?_
  | with_reducible refine e_B ?_
  | with_reducible refine e_fB ?_
  | with_reducible refine e_call ?_
  | with_reducible refine e_callK ?_
  | with_reducible refine e_ML ?_
  | with_reducible refine e_negC ?_
  | with_reducible refine e_yes ?_
  | ((with_reducible apply k_ML); (first | exact rfl | exact asL_own (by walk_at "hp")))
  | ((with_reducible apply k_set); walk_at "hp"; exact rfl)
  | with_reducible refine r_add ?_
  | with_reducible refine r_sub ?_
  | with_reducible refine r_lt ?_
  | with_reducible refine r_le ?_
  | with_reducible refine r_gt ?_
  | with_reducible refine r_ge ?_
  | with_reducible refine r_eqI ?_
  | with_reducible refine r_neI ?_
  | with_reducible refine r_eqS ?_
  | with_reducible refine r_neS ?_
  | ((with_reducible apply r_eq); exact rfl; exact rfl; walk_at "sh"; walk_at "sh")
  | ((with_reducible apply r_ne); exact rfl; exact rfl; walk_at "sh"; walk_at "sh")
  | with_reducible refine r_isN ?_
  | with_reducible refine r_notN ?_
  | ((with_reducible apply r_mod); (first | decide | omega))
  | ((with_reducible apply r_div); (first | decide | exact ⟨by omega, by omega⟩))
  | ((with_reducible apply r_mul); (first | decide | exact .inl ⟨by omega, by omega⟩ | exact .inr ⟨by omega, by omega⟩))
  | ((with_reducible apply r_pow); (first | decide | exact ⟨by omega, by omega, by omega⟩))
  | ((with_reducible apply r_ixT); exact rfl)
  | ((with_reducible apply r_ixL); exact rfl)
  | ((with_reducible apply r_ixO); walk_at "hp"; exact rfl)
  | with_reducible refine b_lenT ?_
  | with_reducible refine b_lenL ?_
  | ((with_reducible apply b_lenO); walk_at "hp")
  | with_reducible refine b_tupleL ?_
  | with_reducible refine b_listL ?_
  | with_reducible refine b_listT ?_
  | with_reducible refine b_intI ?_
  | with_reducible refine b_intB ?_
  | with_reducible refine e_by ?_
  | with_reducible refine e_fAdd ?_
  | with_reducible refine e_lrg1 ?_
  | with_reducible refine e_lrg2 ?_
  | with_reducible refine e_sl ?_
  | with_reducible refine e_no ?_
  | with_reducible refine e_part ?_
  | with_reducible refine k_part ?_
  | with_reducible refine r_slL ?_
  | with_reducible refine r_slT ?_
  | with_reducible refine e_wSeq ?_
  | with_reducible refine k_seqL ?_
  | with_reducible refine k_seqT ?_
  | ((with_reducible apply k_seqO); walk_at "hp")
  | with_reducible refine e_wRg1 ?_
  | with_reducible refine e_fLc ?_
  | with_reducible refine e_rt ?_
  | with_reducible refine e_nx ?_
  | with_reducible refine e_forG ?_
  | with_reducible refine k_forGT ?_
  | with_reducible refine k_forGL ?_
  | with_reducible refine e_fLcG ?_
  | with_reducible refine k_lcGT ?_
  | with_reducible refine k_lcGL ?_
  | with_reducible refine e_tupO ?_
  | with_reducible refine k_tupO rfl ?_
  | with_reducible refine e_lstO ?_
  | with_reducible refine k_lstO rfl ?_
  | with_reducible refine e_unp ?_
  | with_reducible refine e_retN ?_
  | rw [put_put])
local macro_rules | `(tactic| walk_at "dl") => `(tactic| repeat walk_at "dl1")
/-! ### draws -/
def Fd (sc : List Int) (C : Int) (o : MO) : Prop := ∃ i p c : Int, o = .lst [.list (sc.map PyData.int), .int i, .int p, .int c] ∧ 0 ≤ i ∧ 0 ≤ c ∧ c ≤ C
theorem Fd.up {sc : List Int} {C C' : Int} {o : MO} (f : Fd sc C o) (h : C ≤ C') : Fd sc C' o := by
  obtain ⟨i, p, c, e, a, b, d⟩ := f
  exact ⟨i, p, c, e, a, b, by omega⟩
theorem fmod_in {i m : Int} (h : 1 ≤ m) : 0 ≤ i.fmod m ∧ i.fmod m < m := ⟨Int.fmod_nonneg_of_pos i (by omega), Int.fmod_lt_of_pos i (by omega)⟩
theorem at_get {xs : List PyData} {j : Int} (h0 : 0 ≤ j) (h1 : j < xs.length) : ∃ d, atI xs j = some d ∧ d ∈ xs := by
  have hl : j.toNat < xs.length := by omega
  refine ⟨xs[j.toNat], ?_, List.getElem_mem hl⟩
  unfold atI ixN
  rw [if_pos h0, if_pos h1]
  exact List.getElem?_eq_getElem hl
theorem at_ints {ns : List Int} {j : Int} (h0 : 0 ≤ j) (h1 : j < ns.length) : ∃ x, atI (ns.map PyData.int) j = some (.int x) := by
  obtain ⟨d, e, hd⟩ := at_get (xs := ns.map PyData.int) h0 (by rw [List.length_map]; exact h1)
  obtain ⟨x, _, rfl⟩ := List.mem_map.mp hd
  exact ⟨x, e⟩
theorem w_feed {h : MH} {ns : List Int} {Q : DK} {E : DXK} (k : ∀ p o, h p = none → Fd (ns.take 63) 0 o → Q (.own p) (mput h p o)) : W__law_feed [.d (.list (ns.map PyData.int))] h Q E := by
  refine fnW_mk rfl ?_
  unfold t__law_feed
  show dRet _ _ [some (.d (.list (ns.map PyData.int)))] h
  walk_at "dl"
  have e : cutD (ns.map PyData.int) none (some 63) = (ns.take 63).map PyData.int := by
    unfold cutD
    rw [HT.sIx_none, show HT.sIx (ns.map PyData.int).length (ns.map PyData.int).length (some 63) = min 63 (ns.map PyData.int).length from HT.sIx_nat _ _ 63, List.drop_zero, Nat.sub_zero, List.map_take]
    exact List.take_eq_take_iff.mpr (by omega)
  rw [e]
  intro p hp
  refine e_rt ?_
  rw [restr_new hp]
  exact k p _ hp ⟨0, 0, 0, rfl, by omega, by omega, by omega⟩
/-! ### draws of the store laws -/
theorem pow_s1 {x c : Int} (h0 : 0 ≤ c) (h1 : c ≤ 10 ^ 12 + 1) : CPow (x.fmod 1000003 + 613 * c + 17) 5 := by
  obtain ⟨z1, z2⟩ := fmod_in (i := x) (m := 1000003) (by decide)
  exact ⟨by omega, by omega, by omega⟩
theorem pow_s2 {x c : Int} (h0 : 0 ≤ c) (h1 : c ≤ 10 ^ 12 + 1) : CPow (x.fmod 2147483647 + 4099 * c) 5 := by
  obtain ⟨z1, z2⟩ := fmod_in (i := x) (m := 2147483647) (by decide)
  exact ⟨by omega, by omega, by omega⟩
theorem w_drawS {h : MH} {a : Addr} {o : MO} {sc : List Int} {C m : Int} {Q : DK} {E : DXK} (ha : h a = some o) (F : Fd sc C o) (hs : sc.length ≤ 63) (hC : C ≤ 10 ^ 12) (hm : 1 ≤ m ∧ m ≤ 10 ^ 6)
    (k : ∀ v o', 0 ≤ v → v < m → Fd sc (C + 1) o' → Q (.d (.int v)) (mput h a o')) : W__law_draw [.own a, .d (.int m)] h Q E := by
  obtain ⟨i, p, c, rfl, hi, hc, hcC⟩ := F
  have hsome : (h a).isSome = true := by rw [ha]; rfl
  have fin : ∀ (v : Int) (i' p' c' : Int), 0 ≤ v → v < m → 0 ≤ i' → 0 ≤ c' → c' ≤ C + 1 → Q (.d (.int v)) (restr h (mput h a (.lst [.list (sc.map PyData.int), .int i', .int p', .int c'])) (.d (.int v))) := fun v i' p' c' h1 h2 h3 h4 h5 => by
    rw [restr_putd hsome, restr_self]
    exact k v _ h1 h2 ⟨i', p', c', rfl, h3, h4, h5⟩
  have md : ∀ j : Int, 0 ≤ j.fmod m ∧ j.fmod m < m := fun j => fmod_in hm.1
  refine fnW_mk rfl ?_
  unfold t__law_draw
  show dSeq _ _ _ [some (.own a), some (.d (.int m)), none, none, none, none] h
  walk_at "dl"
  refine k_if (fun q => ?_) fun q => ?_
  · walk_at "dl"
    exact fin _ _ _ _ (md _).1 (md _).2 hi (by omega) (by omega)
  · walk_at "dl"
    refine k_ifE (fun q2 => ?_) fun q2 => ?_
    case' refine_1 =>
      have hn : 1 ≤ sc.length := by
        have q3 : 0 < sc.length := by simpa using q2
        omega
      walk_at "dl"
      obtain ⟨z1, z2⟩ := fmod_in (i := i) (m := ((sc.map PyData.int).length : Nat)) (by rw [List.length_map]; omega)
      refine r_mod (by rw [List.length_map]; omega) ?_
      obtain ⟨x, hx⟩ := at_ints (ns := sc) z1 (by simpa using z2)
      refine r_ixL hx ?_
      clear z1 z2 hx
    all_goals
      walk_at "dl"
      refine k_and (fun q3 => ?_) fun q3 => ?_
      case' refine_1 =>
        walk_at "dl"
        refine k_if (fun q4 => ?_) fun q4 => ?_
        case' refine_1 =>
          walk_at "dl"
          exact fin _ _ _ _ (md _).1 (md _).2 (by omega) (by omega) (by omega)
      case' refine_2 =>
        refine k_ifF ?_
      all_goals
        walk_at "dl"
        refine r_pow (pow_s1 (by omega) (by omega)) ?_
        walk_at "dl"
        refine r_pow (pow_s2 (by omega) (by omega)) ?_
        walk_at "dl"
        exact fin _ _ _ _ (md _).1 (md _).2 (by omega) (by omega) (by omega)

/-! ### draws by a dict -/
theorem r_isB {a b : Bool} {h : MH} {Q : DK} (k : Q (.d (.bool (decide (a = b)))) h) : rdIsB (.d (.bool a)) (.d (.bool b)) h Q := k
theorem r_notB {a b : Bool} {h : MH} {Q : DK} (k : Q (.d (.bool (!decide (a = b)))) h) : rdNotB (.d (.bool a)) (.d (.bool b)) h Q := k
def fdL (sc : List Int) (i p c : Int) : List (Key × SV) := [(.inr "cells", .d (.list (sc.map PyData.int))), (.inr "at", .d (.int i)), (.inr "left", .d (.int p)), (.inr "turn", .d (.int c))]
def FdD (sc : List Int) (C : Int) (o : MO) : Prop := ∃ i p c : Int, o = .dct (fdL sc i p c) ∧ 0 ≤ i ∧ 0 ≤ c ∧ c ≤ C
theorem FdD.up {sc : List Int} {C C' : Int} {o : MO} (f : FdD sc C o) (h : C ≤ C') : FdD sc C' o := by
  obtain ⟨i, p, c, e, a, b, d⟩ := f
  exact ⟨i, p, c, e, a, b, by omega⟩
section
variable {sc : List Int} {i p c j : Int}
theorem fv_cells : valS (fdL sc i p c) (.inr "cells") = some (.d (.list (sc.map PyData.int))) := rfl
theorem fv_at : valS (fdL sc i p c) (.inr "at") = some (.d (.int i)) := rfl
theorem fv_left : valS (fdL sc i p c) (.inr "left") = some (.d (.int p)) := rfl
theorem fv_turn : valS (fdL sc i p c) (.inr "turn") = some (.d (.int c)) := rfl
theorem fp_at : putS (fdL sc i p c) (.inr "at") (.d (.int j)) = fdL sc j p c := rfl
theorem fp_left : putS (fdL sc i p c) (.inr "left") (.d (.int j)) = fdL sc i j c := rfl
theorem fp_turn : putS (fdL sc i p c) (.inr "turn") (.d (.int j)) = fdL sc i p j := rfl
end
local macro_rules | `(tactic| walk_at "fd1") => `(tactic| first
  | walk_at "dl1"
  | ((with_reducible apply r_ixD); walk_at "hp"; exact rfl; (first | exact fv_cells | exact fv_at | exact fv_left | exact fv_turn))
  | ((with_reducible apply k_setD); walk_at "hp"; exact rfl; (show (4 : Nat) < 16777216; decide); (first | rw [fp_at] | rw [fp_left] | rw [fp_turn])))
local macro_rules | `(tactic| walk_at "fd") => `(tactic| repeat walk_at "fd1")
theorem fd_some {h : MH} {a : Addr} {o : MO} (ha : h a = some o) : (h a).isSome = true := by rw [ha]; rfl
/-! ### fates -/
inductive Fate where
  | live
  | gone
  | done (i : Int)
def Fate.enc : Fate → PyData
  | .live => .tuple [.str "live"]
  | .gone => .tuple [.str "gone"]
  | .done i => .tuple [.str "done", .int i]
def Fate.num : Fate → Option Int
  | .done i => some i
  | _ => none
def nums (fs : List Fate) : List Int := fs.filterMap Fate.num
def rgI (m : Int) : List Int := (List.range m.toNat).map fun i : Nat => (i : Int)
def upI (n : Nat) : List Int := (List.range n).map fun i : Nat => (i : Int) + 1
theorem rg0 (m : Int) : rgD 0 m = (rgI m).map PyData.int := by
  unfold rgD rgI
  rw [List.map_map, show m - 0 = m by omega]
  refine List.map_congr_left fun i _ => ?_
  show PyData.int (0 + (i : Int)) = PyData.int i
  rw [Int.zero_add]
theorem rgI_len (m : Int) : (rgI m).length = m.toNat := by simp [rgI]
theorem map_cons_inv {α β : Type} {f : α → β} {d : β} {r : List β} {l : List α} (e : d :: r = l.map f) : ∃ x l', l = x :: l' ∧ d = f x ∧ r = l'.map f := by
  cases l with
  | nil => cases e
  | cons x l' =>
    rw [List.map_cons] at e
    injection e with e1 e2
    exact ⟨x, l', rfl, e1, e2⟩
theorem eqv_int (i j : Int) : PyData.eqv (.int i) (.int j) = decide (i = j) := by simp only [PyData.eqv]; by_cases q : i = j <;> simp [q]
theorem at_nat {xs : List PyData} {n : Nat} {d : PyData} (e : xs[n]? = some d) : atI xs (n : Int) = some d := by
  have hl : n < xs.length := (List.getElem?_eq_some_iff.mp e).1
  unfold atI ixN
  rw [if_pos (by omega), if_pos (by omega)]
  exact e
/-! ### versions, stands -/
structure Ver where
  place : Int
  row : Int
  vals : List Int
  maker : Int
  ender : Option Int
  root : Int
def optE : Option Int → PyData
  | none => .none
  | some i => .int i
abbrev Ver.enc (v : Ver) : PyData := .tuple [.int v.place, .int v.row, .tuple (v.vals.map PyData.int), .int v.maker, optE v.ender, .int v.root]
structure Stand where
  cols : Int
  vers : List Ver
  fates : List Fate
  views : List Int
abbrev Stand.enc (s : Stand) : PyData := .tuple [.int s.cols, .tuple (s.vers.map Ver.enc), .tuple (s.fates.map Fate.enc), .tuple (s.views.map PyData.int)]
/-- a version as drawn: n columns, m writers, rows below r -/
structure VerOk (n m r : Int) (v : Ver) : Prop where
  place : 0 ≤ v.place
  row : 0 ≤ v.row ∧ v.row < r
  cols : v.vals.length = n.toNat
  vals : ∀ x ∈ v.vals, -999 ≤ x ∧ x ≤ 999
  maker : 0 ≤ v.maker ∧ v.maker < m
  ender : ∀ i, v.ender = some i → 0 ≤ i ∧ i < m
  root : 0 ≤ v.root ∧ v.root ≤ v.place
structure StandOk (s : Stand) : Prop where
  cols : 1 ≤ s.cols ∧ s.cols ≤ 3
  many : s.fates.length ≤ 20
  size : s.vers.length ≤ 40
  vers : ∀ v ∈ s.vers, VerOk s.cols s.fates.length 99 v
  rise : s.vers.Pairwise fun v u => v.place < u.place
  far : ∀ v ∈ s.vers, v.place ≤ 200
  nums : (nums s.fates).Perm (upI (nums s.fates).length)
  views : s.views.length = s.fates.length
  view : ∀ x ∈ s.views, 0 ≤ x ∧ x ≤ (DL.G.nums s.fates).length
/-! ### who is done, what is seen -/
/-- o is done within the view -/
def doneBy (fs : List Fate) (o : Option Int) (view : Int) : Bool := match o with
  | none => false
  | some i => match fs[i.toNat]? with
    | some (.done n) => decide (n ≤ view)
    | _ => false
section
variable {h : MH} {Q : DK} {E : DXK} {c0 v0 w0 : PyData} {fs : List Fate} {view : Int}
/-- a comprehension over encoded things -/
theorem lc_enc {α : Type} {enc out : α → PyData} {g : Tg} {tt : DTT} {te : DTE} {σ : DSt} {QL : List PyData → MH → Prop} (p : α → Bool) {l : List α}
    (step : ∀ v ∈ l, ∃ σ1, bindT g (.d (enc v)) σ = some σ1 ∧ (∀ K : Bool → MH → Prop, K (p v) h → tt σ1 h K) ∧ (p v = true → ∀ K : DK, K (.d (out v)) h → te σ1 h K)) (fin : QL ((l.filter p).map out) h) : lcL g tt te σ (l.map enc) [] h QL := by
  refine lc_inv (fun r acc h' => ∃ l1 l2 : List α, l = l1 ++ l2 ∧ r = l2.map enc ∧ acc = (l1.filter p).map out ∧ h' = h) ?_ ?_ _ [] h ⟨[], l, rfl, rfl, rfl, rfl⟩
  · rintro d r acc h' K ⟨l1, l2, e, er, rfl, rfl⟩ hK
    obtain ⟨v, l2', rfl, rfl, rfl⟩ := map_cons_inv er
    obtain ⟨σ1, e1, t1, t2⟩ := step v (by rw [e]; simp)
    refine ⟨σ1, e1, t1 _ ?_⟩
    refine k_lc (fun q => t2 q _ ?_) fun q => ?_
    · exact k_lcE (hK _ _ ⟨l1 ++ [v], l2', by rw [e]; simp, rfl, by rw [List.filter_append, List.map_append]; simp [q], rfl⟩)
    · exact hK _ _ ⟨l1 ++ [v], l2', by rw [e]; simp, rfl, by rw [List.filter_append, List.map_append]; simp [q], rfl⟩
  · rintro acc h' ⟨l1, l2, e, er, rfl, rfl⟩
    have e0 : l2 = [] := by
      cases l2 with
      | nil => rfl
      | cons _ _ => cases er
    subst e0
    rw [List.append_nil] at e
    subst e
    exact fin
end

/-! ### seen -/
section
variable {h : MH} {Q : DK} {E : DXK} {c0 v0 w0 : PyData} {fs : List Fate} {view : Int}
end

/-! ### small things: their text is short -/
theorem sOk_int {n : Nat} {i : Int} (h : -(10 ^ 19) ≤ i ∧ i ≤ 10 ^ 19) : sOk n (.int i) = true := by
  have z : i.natAbs < 10 ^ 20 := by omega
  cases n <;> simpa [sOk] using z
theorem sOk_none {n : Nat} : sOk n .none = true := by cases n <;> rfl
theorem sOk_tup {n : Nat} {xs : List PyData} (h : ∀ x ∈ xs, sOk n x = true) : sOk (n + 1) (.tuple xs) = true := by
  simp only [sOk]
  exact List.all_eq_true.mpr h
theorem sOk_lst {n : Nat} {xs : List PyData} (h : ∀ x ∈ xs, sOk n x = true) : sOk (n + 1) (.list xs) = true := by
  simp only [sOk]
  exact List.all_eq_true.mpr h
theorem sOk_ints {n : Nat} {xs : List Int} (h : ∀ x ∈ xs, -(10 ^ 19) ≤ x ∧ x ≤ 10 ^ 19) : ∀ x ∈ xs.map PyData.int, sOk n x = true := fun d hd => by
  obtain ⟨x, hx, rfl⟩ := List.mem_map.mp hd
  exact sOk_int (h x hx)
theorem nodes_ints {n : Nat} (xs : List Int) : ((xs.map PyData.int).map (nodes n)).sum = xs.length := by
  induction xs with
  | nil => rfl
  | cons x xs ih =>
    simp only [List.map_cons, List.sum_cons, List.length_cons, ih]
    cases n <;> (simp only [nodes]; omega)
theorem sOk_up : ∀ (n m : Nat) (d : PyData), n ≤ m → sOk n d = true → sOk m d = true
  | _, m, .none, _, _ => by cases m <;> rfl
  | _, m, .bool _, _, _ => by cases m <;> rfl
  | n, m, .int _, _, h => by cases n <;> cases m <;> simpa [sOk] using h
  | n, m, .str x, _, h => by cases n <;> cases m <;> simpa [sOk] using h
  | n + 1, m + 1, .list xs, hl, h => by
    have z : ∀ x ∈ xs, sOk n x = true := List.all_eq_true.mp (by simpa [sOk] using h)
    simp only [sOk]
    exact List.all_eq_true.mpr fun x hx => sOk_up n m x (by omega) (z x hx)
  | n + 1, m + 1, .tuple xs, hl, h => by
    have z : ∀ x ∈ xs, sOk n x = true := List.all_eq_true.mp (by simpa [sOk] using h)
    simp only [sOk]
    exact List.all_eq_true.mpr fun x hx => sOk_up n m x (by omega) (z x hx)
  | n + 1, 0, .list _, hl, _ => by omega
  | n + 1, 0, .tuple _, hl, _ => by omega
  | 0, _, .list _, _, h => by simp [sOk] at h
  | 0, _, .tuple _, _, h => by simp [sOk] at h
  | n, _, .dict _, _, h => by cases n <;> simp [sOk] at h
theorem nodes_up : ∀ (n m : Nat) (d : PyData), n ≤ m → sOk n d = true → nodes m d = nodes n d
  | n, m, .none, _, _ => by cases n <;> cases m <;> rfl
  | n, m, .bool _, _, _ => by cases n <;> cases m <;> rfl
  | n, m, .int _, _, h => by cases n <;> cases m <;> rfl
  | n, m, .str x, _, h => by cases n <;> cases m <;> rfl
  | n + 1, m + 1, .list xs, hl, h => by
    have z : ∀ x ∈ xs, sOk n x = true := List.all_eq_true.mp (by simpa [sOk] using h)
    simp only [nodes]
    rw [List.map_congr_left fun x hx => nodes_up n m x (by omega) (z x hx)]
  | n + 1, m + 1, .tuple xs, hl, h => by
    have z : ∀ x ∈ xs, sOk n x = true := List.all_eq_true.mp (by simpa [sOk] using h)
    simp only [nodes]
    rw [List.map_congr_left fun x hx => nodes_up n m x (by omega) (z x hx)]
  | n + 1, 0, .list _, hl, _ => by omega
  | n + 1, 0, .tuple _, hl, _ => by omega
  | 0, _, .list _, _, h => by simp [sOk] at h
  | 0, _, .tuple _, _, h => by simp [sOk] at h
  | n, _, .dict _, _, h => by cases n <;> simp [sOk] at h
/-- a version in its bounds -/
structure VerIn (v : Ver) : Prop where
  a : -(10 ^ 19) ≤ v.place ∧ v.place ≤ 10 ^ 19
  b : -(10 ^ 19) ≤ v.row ∧ v.row ≤ 10 ^ 19
  c : ∀ x ∈ v.vals, -(10 ^ 19) ≤ x ∧ x ≤ 10 ^ 19
  d : -(10 ^ 19) ≤ v.maker ∧ v.maker ≤ 10 ^ 19
  e : ∀ i, v.ender = some i → -(10 ^ 19) ≤ i ∧ i ≤ 10 ^ 19
  f : -(10 ^ 19) ≤ v.root ∧ v.root ≤ 10 ^ 19
  n : v.vals.length ≤ 10
theorem VerIn.sOk {v : Ver} (k : VerIn v) : DL.sOk 2 v.enc = true := sOk_tup fun x hx => by
  simp only [List.mem_cons, List.not_mem_nil, or_false] at hx
  rcases hx with rfl | rfl | rfl | rfl | rfl | rfl
  · exact sOk_int k.a
  · exact sOk_int k.b
  · exact sOk_tup (sOk_ints k.c)
  · exact sOk_int k.d
  · cases q : v.ender with
    | none => exact sOk_none
    | some i => exact sOk_int (k.e i q)
  · exact sOk_int k.f
theorem nodes_int {n : Nat} {i : Int} : nodes n (.int i) = 1 := by cases n <;> rfl
theorem nodes_opt {n : Nat} {o : Option Int} : nodes n (optE o) = 1 := by cases o <;> cases n <;> rfl
theorem VerIn.nodes {v : Ver} (k : VerIn v) : DL.nodes 2 v.enc ≤ 17 := by
  have e : DL.nodes 2 v.enc = 1 + (DL.nodes 1 (.int v.place) + (DL.nodes 1 (.int v.row) + ((1 + ((v.vals.map PyData.int).map (DL.nodes 0)).sum) + (DL.nodes 1 (.int v.maker) + (DL.nodes 1 (optE v.ender) + (DL.nodes 1 (.int v.root) + 0)))))) := rfl
  have := k.n
  rw [e, nodes_int, nodes_int, nodes_int, nodes_int, nodes_opt, nodes_ints]
  omega
theorem StandOk.verIn {S : Stand} (k : StandOk S) : ∀ v ∈ S.vers, VerIn v := fun v hv => by
  have o := k.vers v hv
  have far := k.far v hv
  have := o.place
  have := o.row
  have := o.maker
  have := o.root
  have := k.many
  have := k.cols
  exact ⟨by omega, by omega, fun x hx => by have := o.vals x hx; omega, by omega, fun i hi => by have := o.ender i hi; omega, by omega, by rw [o.cols]; omega⟩
theorem upI_in {n : Nat} {x : Int} (h : x ∈ upI n) : 1 ≤ x ∧ x ≤ n := by
  obtain ⟨i, hi, rfl⟩ := List.mem_map.mp h
  have := List.mem_range.mp hi
  omega
theorem StandOk.numIn {S : Stand} (k : StandOk S) : ∀ f ∈ S.fates, ∀ i, f.num = some i → 1 ≤ i ∧ i ≤ 20 := fun f hf i hi => by
  have m : i ∈ DL.G.nums S.fates := List.mem_filterMap.mpr ⟨f, hf, hi⟩
  have z := upI_in (k.nums.mem_iff.mp m)
  have hn : (DL.G.nums S.fates).length ≤ S.fates.length := List.length_filterMap_le _ _
  have := k.many
  omega
theorem fate_small {f : Fate} (h : ∀ i, f.num = some i → 1 ≤ i ∧ i ≤ 10 ^ 19) : sOk 1 f.enc = true ∧ nodes 1 f.enc ≤ 3 := by
  cases f with
  | live => exact ⟨by decide +kernel, by decide +kernel⟩
  | gone => exact ⟨by decide +kernel, by decide +kernel⟩
  | done i =>
    have := h i rfl
    refine ⟨sOk_tup fun x hx => ?_, ?_⟩
    · simp only [List.mem_cons, List.not_mem_nil, or_false] at hx
      rcases hx with rfl | rfl
      · decide +kernel
      · exact sOk_int (by omega)
    · show 1 + (nodes 0 (.str "done") + (nodes 0 (.int i) + 0)) ≤ 3
      rw [nodes_int]
      show 1 + (1 + (1 + 0)) ≤ 3
      omega
theorem StandOk.repr {S : Stand} (k : StandOk S) : reprOk S.enc := by
  have hn : (DL.G.nums S.fates).length ≤ S.fates.length := List.length_filterMap_le _ _
  have hm := k.many
  have hf : ∀ x ∈ S.fates.map Fate.enc, sOk 1 x = true ∧ nodes 1 x ≤ 3 := fun x hx => by
    obtain ⟨f, hf, rfl⟩ := List.mem_map.mp hx
    exact fate_small fun i hi => by have := k.numIn f hf i hi; omega
  refine reprOk_of (n := 5) (by decide) (sOk_tup fun x hx => ?_) ?_
  · simp only [List.mem_cons, List.not_mem_nil, or_false] at hx
    rcases hx with rfl | rfl | rfl | rfl
    · have := k.cols
      exact sOk_int (by omega)
    · exact sOk_tup fun x hx => by
        obtain ⟨v, hv, rfl⟩ := List.mem_map.mp hx
        exact sOk_up 2 3 _ (by decide) (k.verIn v hv).sOk
    · exact sOk_tup fun x hx => sOk_up 1 3 _ (by decide) (hf x hx).1
    · exact sOk_tup (sOk_ints fun x hx => by have := k.view x hx; omega)
  · have e : nodes 5 S.enc = 1 + (nodes 4 (.int S.cols) + ((1 + ((S.vers.map Ver.enc).map (nodes 3)).sum) + ((1 + ((S.fates.map Fate.enc).map (nodes 3)).sum) + ((1 + ((S.views.map PyData.int).map (nodes 3)).sum) + 0)))) := rfl
    have z1 := nodes_le (n := 3) (c := 17) (xs := S.vers.map Ver.enc) fun x hx => by
      obtain ⟨v, hv, rfl⟩ := List.mem_map.mp hx
      rw [nodes_up 2 3 _ (by decide) (k.verIn v hv).sOk]
      exact (k.verIn v hv).nodes
    have z2 := nodes_le (n := 3) (c := 3) (xs := S.fates.map Fate.enc) fun x hx => by
      rw [nodes_up 1 3 _ (by decide) (hf x hx).1]
      exact (hf x hx).2
    have z3 := k.views
    have z4 := k.size
    rw [List.length_map] at z1 z2
    rw [e, nodes_int, nodes_ints]
    omega

/-! ### the law's own look -/
section
variable {h : MH} {Q : DK} {E : DXK} {c0 v0 w0 : PyData} {fs : List Fate} {vers : List Ver}
/-- o is on for the writer wr at the view -/
def isOn (fs : List Fate) (o wr : Option Int) (view : Int) : Bool := match o with
  | none => false
  | some i => decide (wr = some i) || doneBy fs o view
def onV (fs : List Fate) (wr : Option Int) (view : Int) (v : Ver) : Bool := isOn fs (some v.maker) wr view && !isOn fs v.ender wr view
end

/-! ### .. all that is seen -/
section
variable {h : MH} {Q : DK} {E : DXK} {c0 v0 w0 : PyData} {fs : List Fate} {vers : List Ver}
end

/-! ### own errors: steps of readings -/
def raiseK (E : DXS) (n f : Str) (σ : DSt) : List SV → MH → Prop := fun xs h1 => match fzs xs h1 with
  | some ([d], h2) => E ⟨n, [(f, d)]⟩ σ h2
  | _ => False
theorem e_raise {E : DXS} {n f : Str} {t : DTA} {D : DEnds} {σ : DSt} {h : MH} (k : t σ h (raiseK E n f σ)) : dRaise1 E n f t D σ h := k
theorem k_raise {E : DXS} {n f : Str} {σ : DSt} {d : PyData} {h : MH} (k : E ⟨n, [(f, d)]⟩ σ h) : raiseK E n f σ [.d d] h := k
theorem restrX_self {h : MH} : restrX h h = h := by
  funext b
  unfold restrX
  cases q : h b with
  | none => rfl
  | some o => rfl
theorem e_isX {kt : Str → Str → Option Bool} {i : Nat} {a : Addr} {y : DExc} {n : Str} {σ : DSt} {h : MH} {Q : DK} {b : Bool} (e : slot σ i = some (.own a)) (e1 : kt y.cls n = some b) (k : Q (.d (.bool b)) h) : dIsX kt i a y n σ h Q := ⟨e, by rw [e1]; exact k⟩
theorem e_isXT {kt : Str → Str → Option Bool} {i : Nat} {a : Addr} {y : DExc} {n : Str} {ns : List Str} {σ : DSt} {h : MH} {Q : DK} {b : Bool} (e : slot σ i = some (.own a)) (e0 : (kt y.cls n).isSome = true) (l : ns.length + 1 ≤ 100) (e1 : anyK kt y.cls (n :: ns) = some b) (k : Q (.d (.bool b)) h) : dIsXT kt i a y n ns σ h Q :=
  ⟨e, e0, by rw [sizeLine_eq]; omega, by rw [e1]; exact k⟩
theorem e_xf {xt : Str → Str → Bool} {i : Nat} {a : Addr} {y : DExc} {f : Str} {σ : DSt} {h : MH} {Q : DK} {d : PyData} (e : slot σ i = some (.own a)) (e0 : xt y.cls f = true) (e1 : y.fs.lookup f = some d) (k : Q (.d d) h) : dXf xt i a y f σ h Q := ⟨e, e0, by rw [e1]; exact k⟩
/-! ### writers -/
/-- the error that tells a writer that is not there -/
abbrev noW (w : Int) : DExc := ⟨"NoWriter", [("number", .int w)]⟩
def viewAt (vw : List Int) (w : Int) : Int := (vw[w.toNat]?).getD 0
section
variable {h : MH} {Q : DK} {E : DXK} {c0 v0 w0 : PyData} {fs : List Fate} {vw : List Int} {w : Int}
end

/-! ### more -/
section
variable {h : MH} {Q : DK} {E : DXK} {c0 v0 w0 : PyData} {fs : List Fate} {vw : List Int} {w : Int}
end
section
variable {h : MH} {Q : DK} {E : DXK} {c0 v0 w0 : PyData} {fs : List Fate} {vers : List Ver}
end
/-! tuples as targets -/
section
variable {D : DEnds} {σ : DSt} {h : MH}
theorem k_tg2 {i' j' : Nat} {a b : PyData} (k : D.nx ((σ.set i' (some (.d a))).set j' (some (.d b))) h) : asgK (.tup [i', j']) D σ (.d (.tuple [a, b])) h := k_tg rfl k
theorem bind2 {i' j' : Nat} {a b : PyData} : bindT (.tup [i', j']) (.d (.tuple [a, b])) σ = some ((σ.set i' (some (.d a))).set j' (some (.d b))) := rfl
theorem k_tg3 {i' j' l' : Nat} {a b c : PyData} (k : D.nx (((σ.set i' (some (.d a))).set j' (some (.d b))).set l' (some (.d c))) h) : asgK (.tup [i', j', l']) D σ (.d (.tuple [a, b, c])) h := k_tg rfl k
theorem k_tg4 {i' j' l' m' : Nat} {a b c d : PyData} (k : D.nx ((((σ.set i' (some (.d a))).set j' (some (.d b))).set l' (some (.d c))).set m' (some (.d d))) h) : asgK (.tup [i', j', l', m']) D σ (.d (.tuple [a, b, c, d])) h := k_tg rfl k
theorem k_tg5 {i' j' l' m' n' : Nat} {a b c d e : PyData} (k : D.nx (((((σ.set i' (some (.d a))).set j' (some (.d b))).set l' (some (.d c))).set m' (some (.d d))).set n' (some (.d e))) h) : asgK (.tup [i', j', l', m', n']) D σ (.d (.tuple [a, b, c, d, e])) h := k_tg rfl k
theorem k_tg6 {i' j' l' m' n' o' : Nat} {a b c d e f : PyData} (k : D.nx ((((((σ.set i' (some (.d a))).set j' (some (.d b))).set l' (some (.d c))).set m' (some (.d d))).set n' (some (.d e))).set o' (some (.d f))) h) : asgK (.tup [i', j', l', m', n', o']) D σ (.d (.tuple [a, b, c, d, e, f])) h := k_tg rfl k
end
theorem r_mulL {xs : List PyData} {j : Int} {h : MH} {Q : DK} (c : 0 ≤ j ∧ j < 1000 ∧ xs.length * j.toNat ≤ 16777216) (k : Q (.d (.list (List.replicate j.toNat xs).flatten)) h) : rdMul (.d (.list xs)) (.d (.int j)) h Q := ⟨by omega, by omega, by rw [sizeLine_eq]; exact c.2.2, k⟩

/-! ### small data, composed -/
def Sml (n c : Nat) (d : PyData) : Prop := sOk n d = true ∧ nodes n d ≤ c
def SmlL (n c : Nat) (xs : List PyData) : Prop := (∀ x ∈ xs, sOk n x = true) ∧ (xs.map (nodes n)).sum ≤ c
theorem Sml.repr {n c : Nat} {d : PyData} (h : Sml n c d) (hn : n ≤ 32 := by decide) (hc : c ≤ 600000 := by first | decide | omega) : reprOk d := reprOk_of hn h.1 (by have := h.2; omega)
theorem Sml.shaped {n c : Nat} {d : PyData} (h : Sml n c d) (hn : n ≤ 64 := by decide) : SeqAt.shaped d = true := shaped_ok hn (sOk_dOk n d h.1)
theorem Sml.up {n m c c' : Nat} {d : PyData} (h : Sml n c d) (hn : n ≤ m := by decide) (hc : c ≤ c' := by first | decide | omega) : Sml m c' d := ⟨sOk_up n m d hn h.1, by rw [nodes_up n m d hn h.1]; exact Nat.le_trans h.2 hc⟩
theorem SmlL.up {n m c c' : Nat} {d : List PyData} (h : SmlL n c d) (hn : n ≤ m := by decide) (hc : c ≤ c' := by first | decide | omega) : SmlL m c' d := ⟨fun x hx => sOk_up n m x hn (h.1 x hx), by
  rw [List.map_congr_left fun x hx => nodes_up n m x hn (h.1 x hx)]
  exact Nat.le_trans h.2 hc⟩
theorem SmlL.nil {n : Nat} : SmlL n 0 [] := ⟨fun x hx => (by cases hx), by simp⟩
theorem SmlL.cons {n a b : Nat} {x : PyData} {xs : List PyData} (h : Sml n a x) (t : SmlL n b xs) : SmlL n (a + b) (x :: xs) := ⟨fun y hy => by
  rcases List.mem_cons.mp hy with rfl | q
  · exact h.1
  · exact t.1 y q, by rw [List.map_cons, List.sum_cons]; exact Nat.add_le_add h.2 t.2⟩
theorem SmlL.app {n a b : Nat} {xs ys : List PyData} (h : SmlL n a xs) (t : SmlL n b ys) : SmlL n (a + b) (xs ++ ys) := ⟨fun y hy => by
  rcases List.mem_append.mp hy with q | q
  · exact h.1 y q
  · exact t.1 y q, by rw [List.map_append, List.sum_append]; exact Nat.add_le_add h.2 t.2⟩
theorem SmlL.all {n c k : Nat} {xs : List PyData} (h : ∀ x ∈ xs, Sml n c x) (hl : xs.length ≤ k) : SmlL n (c * k) xs := ⟨fun x hx => (h x hx).1, Nat.le_trans (nodes_le fun x hx => (h x hx).2) (Nat.mul_le_mul_left _ hl)⟩
theorem SmlL.tup {n c : Nat} {xs : List PyData} (h : SmlL n c xs) : Sml (n + 1) (c + 1) (.tuple xs) := ⟨sOk_tup h.1, by
  have e : nodes (n + 1) (.tuple xs) = 1 + (xs.map (nodes n)).sum := rfl
  rw [e]; have := h.2; omega⟩
theorem SmlL.lst {n c : Nat} {xs : List PyData} (h : SmlL n c xs) : Sml (n + 1) (c + 1) (.list xs) := ⟨sOk_lst h.1, by
  have e : nodes (n + 1) (.list xs) = 1 + (xs.map (nodes n)).sum := rfl
  rw [e]; have := h.2; omega⟩
theorem Sml.none {n : Nat} : Sml n 1 .none := ⟨sOk_none, by cases n <;> exact Nat.le_refl 1⟩
theorem Sml.bool {n : Nat} {b : Bool} : Sml n 1 (.bool b) := ⟨by cases n <;> rfl, by cases n <;> exact Nat.le_refl 1⟩
theorem Sml.int {n : Nat} {i : Int} (h : -(10 ^ 19) ≤ i ∧ i ≤ 10 ^ 19) : Sml n 1 (.int i) := ⟨sOk_int h, by rw [nodes_int]; exact Nat.le_refl 1⟩
theorem Sml.str {n : Nat} {x : Str} (h : (PySem.PyData.strOk x && decide ((reprText x).length ≤ 24)) = true := by decide +kernel) : Sml n 1 (.str x) := ⟨by cases n <;> exact h, by cases n <;> exact Nat.le_refl 1⟩
/-! ### all that is seen -/
section
variable {h : MH} {Q : DK} {E : DXK} {c0 v0 w0 : PyData} {fs : List Fate} {vw : List Int} {vers : List Ver} {w : Int}
end
/-! ### scans -/
theorem e_callK {E : DXS} {W : DSp} {z : Shape} {t tk : DTA} {σ : DSt} {h : MH} {Q : DK} (k : t σ h fun xs h1 => tk σ h1 fun zs h2 => xs.length = z.n ∧ zs.length = z.ks.length ∧ W (xs ++ pick z.cs (z.dm.map SV.d) zs) h2 Q fun x h3 => E x σ h3) : dCallK E W z t tk σ h Q := k
section
variable {h : MH} {Q : DK} {E : DXK} {c0 v0 w0 : PyData} {fs : List Fate} {vw : List Int} {vers : List Ver} {w : Int} {σ : DSt} {QB : Bool → MH → Prop}
end

/-! ### steps: zip, enumerate, min, extend -/
section
variable {σ : DSt} {h h2 : MH} {Q : DK} {QL : List PyData → MH → Prop} {ta tb te to : DTE} {tF : DTF} {xs ys ds es : List PyData} {a : Addr} {x y : SV}
def zipK (QL : List PyData → MH → Prop) (x y : SV) (h2 : MH) : Prop := match fz1 x h2 with
  | some (.list ds, h3) => (match fz1 y h3 with
    | some (.list es, h4) => QL (zipD ds es) h4
    | _ => False)
  | some (.tuple ds, h3) => (match fz1 y h3 with
    | some (.tuple es, h4) => QL (zipD ds es) h4
    | _ => False)
  | _ => False
theorem e_wZip (k : ta σ h fun x h1 => tb σ h1 fun y h2 => zipK QL x y h2) : wZip ta tb σ h QL := k
theorem k_zipT (k : QL (zipD ds es) h) : zipK QL (.d (.tuple ds)) (.d (.tuple es)) h := k
theorem k_zipL (k : QL (zipD ds es) h) : zipK QL (.d (.list ds)) (.d (.list es)) h := k
def enumK (QL : List PyData → MH → Prop) (x : SV) (h1 : MH) : Prop := match fz1 x h1 with
  | some (.list ds, h2) => QL (enumD ds) h2
  | some (.tuple ds, h2) => QL (enumD ds) h2
  | _ => False
theorem e_wEnum (k : te σ h (enumK QL)) : wEnum te σ h QL := k
theorem k_enumT (k : QL (enumD ds) h) : enumK QL (.d (.tuple ds)) h := k
theorem k_enumL (k : QL (enumD ds) h) : enumK QL (.d (.list ds)) h := k
def minK (Q : DK) (x : SV) (h1 : MH) : Prop := match asL h1 x with
  | some ds => PySem.W.AlikeAll ds ∧ PyData.depthAll ds ≤ 60 ∧ (match ds with
    | [] => Q (.d .none) h1
    | y :: ys => Q (.d (PySem.W.minD y ys)) h1)
  | none => False
theorem e_minD (k : te σ h (minK Q)) : dMinD te σ h Q := k
def extE (Q : DK) (x : SV) (ds : List PyData) (h2 : MH) : Prop := match ownL h2 x with
  | some (a, xs) => xs.length + ds.length ≤ sizeLine ∧ Q (.d .none) (mput h2 a (.lst (xs ++ ds)))
  | none => False
def extK (tF : DTF) (σ : DSt) (Q : DK) (x : SV) (h1 : MH) : Prop := match asL h1 x with
  | some _ => tF σ h1 fun ds h2 => extE Q x ds h2
  | none => False
theorem e_ext (k : to σ h (extK tF σ Q)) : dExt to tF σ h Q := k
theorem k_ext (e : h a = some (.lst xs)) (k : tF σ h fun ds h2 => extE Q (.own a) ds h2) : extK tF σ Q (.own a) h := by
  unfold extK
  rw [asL_own e]
  exact k
theorem r_addT (c : xs.length + ys.length ≤ 16777216) (k : Q (.d (.tuple (xs ++ ys))) h) : rdAdd (.d (.tuple xs)) (.d (.tuple ys)) h Q := ⟨by rw [sizeLine_eq]; exact c, k⟩
end

/-! ### first two of a row -/
/-! ### sorted lists of numbers -/
/-! ### why -/
section
variable {h : MH} {Q : DK} {E : DXK} {c0 v0 w0 : PyData} {fs : List Fate} {vw : List Int} {w : Int}
end

/-! ### cuts -/
/-! ### papers: steps -/
section
variable {h : MH} {Q : DK} {E : DXK} {σ : DSt} {D : DEnds}
def raise2K (E : DXS) (n f g : Str) (σ : DSt) : List SV → MH → Prop := fun xs h1 => match fzs xs h1 with
  | some ([d, d2], h2) => E ⟨n, [(f, d), (g, d2)]⟩ σ h2
  | _ => False
theorem e_raise2 {E : DXS} {n f g : Str} {t : DTA} (k : t σ h (raise2K E n f g σ)) : dRaise2 E n f g t D σ h := k
theorem k_raise2 {E : DXS} {n f g : Str} {d d2 : PyData} (k : E ⟨n, [(f, d), (g, d2)]⟩ σ h) : raise2K E n f g σ [.d d, .d d2] h := k
def isK (n : String) (Q : DK) : DK := fun x h1 => match asD h1 x with
  | some d => (match kitB (tyN d) n with
    | some b => Q (.d (.bool b)) h1
    | none => False)
  | none => False
theorem e_isT {te : DTE} {n : String} (k : te σ h (isK n Q)) : dIsT te n σ h Q := k
theorem k_isT {d : PyData} {n t : String} {b : Bool} (e0 : tyN d = t) (e : kitB t n = some b) (k : Q (.d (.bool b)) h) : isK n Q (.d d) h := by
  show (match kitB (tyN d) n with
    | some b => Q (.d (.bool b)) h
    | none => False)
  rw [e0, e]
  exact k
end
/-! ### papers of what is seen -/
section
variable {h : MH} {Q : DK} {E : DXK} {c0 v0 w0 : PyData} {fs : List Fate} {vw : List Int} {vers : List Ver} {w : Int}
end

/-! ### stands by kind -/
section
variable {h : MH} {Q : DK} {E : DXK} {σ : DSt} {D : DEnds}
theorem e_chain {r r' : DR2} {ta tb tc : DTE} (k : ta σ h fun x h1 => tb σ h1 fun y h2 => r x y h2 (chainK r r' tc σ y Q)) : dChain r r' ta tb tc σ h Q := k
theorem k_chain {r r' : DR2} {tc : DTE} {y : SV} {b : Bool} (k1 : b = true → tc σ h fun w h4 => r' y w h4 Q) (k2 : b = false → Q (.d (.bool false)) h) : chainK r r' tc σ y Q (.d (.bool b)) h := by
  cases b with
  | true => exact k1 rfl
  | false => exact k2 rfl
end
section
variable {h : MH} {Q : DK} {E : DXK} {fs : List Fate}
end

/-! ### stands by deeds -/
section
variable {h : MH} {Q : DK} {E : DXK} {fs : List Fate} {view : Int}
end
/-- what one deed of a writer makes of the versions -/
inductive Wrote (S : Stand) (wr : Int) : List Ver → Prop where
  | put (row : Int) (vals : List Int) (hr : ∀ v ∈ S.vers, v.row < row) (h0 : 0 ≤ row ∧ row ≤ S.vers.length) (hl : vals.length = S.cols.toNat) (hb : ∀ x ∈ vals, -999 ≤ x ∧ x ≤ 999) : Wrote S wr (S.vers ++ [⟨S.vers.length, row, vals, wr, none, S.vers.length⟩])
  | strike (i : Nat) (v : Ver) (hi : S.vers[i]? = some v) (hs : onV S.fates (some wr) (viewAt S.views wr) v = true) (he : ∀ j, v.ender = some j → S.fates[j.toNat]? = some .gone) : Wrote S wr (S.vers.set i { v with ender := some wr })
  | turn (i : Nat) (v : Ver) (vals : List Int) (root : Int) (hi : S.vers[i]? = some v) (hs : onV S.fates (some wr) (viewAt S.views wr) v = true) (he : ∀ j, v.ender = some j → S.fates[j.toNat]? = some .gone)
      (hl : vals.length = S.cols.toNat) (hb : ∀ x ∈ vals, -999 ≤ x ∧ x ≤ 999) (hr : root = S.vers.length ∨ root = v.root) : Wrote S wr (S.vers.set i { v with ender := some wr } ++ [⟨S.vers.length, v.row, vals, wr, none, root⟩])
structure DeedOk (S : Stand) : Prop where
  ok : StandOk S
  at_ : ∀ i v, S.vers[i]? = some v → v.place = ((i : Nat) : Int)
  row : ∀ v ∈ S.vers, v.row < S.vers.length
local macro_rules | `(tactic| walk_at "fd1") => `(tactic| first
  | walk_at "dl1"
  | ((with_reducible apply r_ixD); walk_at "hp"; exact rfl; (first | exact fv_cells | exact fv_at | exact fv_left | exact fv_turn))
  | ((with_reducible apply k_setD); walk_at "hp"; exact rfl; (show (4 : Nat) < 16777216; decide); (first | rw [fp_at] | rw [fp_left] | rw [fp_turn])))
local macro_rules | `(tactic| walk_at "fd") => `(tactic| repeat walk_at "fd1")
section
variable {h : MH} {Q : DK} {E : DXK}
end

/-! ### stands that deeds reach -/
inductive Step (S : Stand) : Stand → Prop where
  | begin (h : S.fates.length < 20) : Step S ⟨S.cols, S.vers, S.fates ++ [.live], S.views ++ [((nums S.fates).length : Int)]⟩
  | gone (who : Nat) (h : S.fates[who]? = some .live) : Step S ⟨S.cols, S.vers, S.fates.set who .gone, S.views⟩
  | done (who : Nat) (h : S.fates[who]? = some .live) : Step S ⟨S.cols, S.vers, S.fates.set who (.done ((nums S.fates).length + 1)), S.views⟩
  | wrote (who : Nat) (h : S.fates[who]? = some .live) (hz : S.vers.length < 40) {vs : List Ver} (w : Wrote S who vs) : Step S ⟨S.cols, vs, S.fates, S.views⟩
inductive Reach (w : Int) : Stand → Prop where
  | nil : Reach w ⟨w, [], [], []⟩
  | step {S S' : Stand} (r : Reach w S) (s : Step S S') : Reach w S'
theorem numsA (a b : List Fate) : nums (a ++ b) = nums a ++ nums b := List.filterMap_append
theorem nums_set_gone : ∀ {fs : List Fate} {who : Nat}, fs[who]? = some .live → nums (fs.set who .gone) = nums fs
  | [], _, h => by cases h
  | f :: fs, 0, h => by
    simp at h
    subst h
    rfl
  | f :: fs, n + 1, h => by
    have ih := nums_set_gone (fs := fs) (who := n) (by simpa using h)
    unfold nums at ih ⊢
    rw [List.set_cons_succ, List.filterMap_cons, List.filterMap_cons, ih]
theorem nums_set_done {n : Int} : ∀ {fs : List Fate} {who : Nat}, fs[who]? = some .live → (nums (fs.set who (.done n))).Perm (n :: nums fs)
  | [], _, h => by cases h
  | f :: fs, 0, h => by
    simp at h
    subst h
    exact List.Perm.refl _
  | f :: fs, k + 1, h => by
    have ih := nums_set_done (n := n) (fs := fs) (who := k) (by simpa using h)
    unfold nums at ih ⊢
    rw [List.set_cons_succ, List.filterMap_cons, List.filterMap_cons]
    cases f.num with
    | none => exact ih
    | some i => exact (ih.cons i).trans (List.Perm.swap _ _ _)
theorem upI_succ (n : Nat) : upI (n + 1) = upI n ++ [(n : Int) + 1] := by
  unfold upI
  rw [List.range_succ, List.map_append]
  rfl
theorem wrote_len {S : Stand} {wr : Int} {vs : List Ver} (w : Wrote S wr vs) : S.vers.length ≤ vs.length ∧ vs.length ≤ S.vers.length + 1 := by
  cases w with
  | put row vals hr h0 hl hb => simp
  | strike i v hi hs he => simp
  | turn i v vals root hi hs he hl hb hr => simp
/-- what stands at a place of what a deed wrote -/
theorem wrote_at {S : Stand} {wr : Int} {vs : List Ver} (w : Wrote S wr vs) {i : Nat} {u : Ver} (e : vs[i]? = some u) :
    S.vers[i]? = some u ∨ (∃ v, S.vers[i]? = some v ∧ u = { v with ender := some wr }) ∨ (i = S.vers.length ∧ u.place = S.vers.length ∧ u.maker = wr ∧ u.ender = none ∧ u.vals.length = S.cols.toNat ∧ (∀ x ∈ u.vals, -999 ≤ x ∧ x ≤ 999) ∧
      ((0 ≤ u.row ∧ u.row ≤ S.vers.length ∧ u.root = S.vers.length) ∨ ∃ v ∈ S.vers, u.row = v.row ∧ (u.root = S.vers.length ∨ u.root = v.root))) := by
  have setA : ∀ (j : Nat) (v : Ver), S.vers[j]? = some v → (S.vers.set j { v with ender := some wr })[i]? = some u → S.vers[i]? = some u ∨ ∃ v, S.vers[i]? = some v ∧ u = { v with ender := some wr } := fun j v hj e => by
    by_cases q : j = i
    · subst q
      rw [List.getElem?_set_self (List.getElem?_eq_some_iff.mp hj).1] at e
      exact .inr ⟨v, hj, (Option.some.inj e).symm⟩
    · rw [List.getElem?_set_ne q] at e
      exact .inl e
  cases w with
  | put row vals hr h0 hl hb =>
    by_cases q : i < S.vers.length
    · rw [List.getElem?_append_left q] at e; exact .inl e
    · have hi := (List.getElem?_eq_some_iff.mp e).1
      simp at hi
      have hi2 : i = S.vers.length := by omega
      subst hi2
      rw [List.getElem?_append_right (Nat.le_refl _), Nat.sub_self] at e
      cases e
      exact .inr (.inr ⟨rfl, rfl, rfl, rfl, hl, hb, .inl ⟨h0.1, h0.2, rfl⟩⟩)
  | strike j v hj hs he =>
    rcases setA j v hj e with z | z
    · exact .inl z
    · exact .inr (.inl z)
  | turn j v vals root hj hs he hl hb hr =>
    by_cases q : i < S.vers.length
    · rw [List.getElem?_append_left (by rw [List.length_set]; exact q)] at e
      rcases setA j v hj e with z | z
      · exact .inl z
      · exact .inr (.inl z)
    · have hi := (List.getElem?_eq_some_iff.mp e).1
      simp at hi
      have hi2 : i = S.vers.length := by omega
      subst hi2
      rw [List.getElem?_append_right (by rw [List.length_set]; exact Nat.le_refl _), List.length_set, Nat.sub_self] at e
      cases e
      exact .inr (.inr ⟨rfl, rfl, rfl, rfl, hl, hb, .inr ⟨v, List.mem_of_getElem? hj, rfl, hr⟩⟩)
theorem rise_of {vs : List Ver} (h : ∀ i v, vs[i]? = some v → v.place = ((i : Nat) : Int)) : vs.Pairwise fun v u => v.place < u.place := by
  refine List.pairwise_iff_getElem.mpr fun i j hi hj hij => ?_
  rw [h i _ (List.getElem?_eq_getElem hi), h j _ (List.getElem?_eq_getElem hj)]
  omega
theorem DeedOk.step {S S' : Stand} (d : DeedOk S) (s : Step S S') : DeedOk S' := by
  have ok := d.ok
  cases s with
  | begin h =>
    have hn : nums (S.fates ++ [Fate.live]) = nums S.fates := by rw [numsA]; exact List.append_nil _
    have hl : ((S.fates ++ [Fate.live]).length : Int) = (S.fates.length : Int) + 1 := by simp
    refine ⟨⟨ok.cols, by show (S.fates ++ [Fate.live]).length ≤ 20; simp; omega, ok.size, fun v hv => ?_, ok.rise, ok.far, by show (nums (S.fates ++ [Fate.live])).Perm _; rw [hn]; exact ok.nums, by show (S.views ++ [_]).length = (S.fates ++ [_]).length; simp [ok.views], fun x hx => ?_⟩, d.at_, d.row⟩
    · have y := ok.vers v hv
      show VerOk S.cols ((S.fates ++ [Fate.live]).length : Int) 99 v
      rw [hl]
      exact ⟨y.place, y.row, y.cols, y.vals, ⟨y.maker.1, by have := y.maker.2; omega⟩, fun i q => ⟨(y.ender i q).1, by have := (y.ender i q).2; omega⟩, y.root⟩
    · show 0 ≤ x ∧ x ≤ ((nums (S.fates ++ [Fate.live])).length : Int)
      rw [hn]
      rcases List.mem_append.mp hx with z | z
      · exact ok.view x z
      · rw [List.mem_singleton.mp z]; omega
  | gone who h =>
    have hn := nums_set_gone h
    have hl : (S.fates.set who .gone).length = S.fates.length := List.length_set
    exact ⟨⟨ok.cols, by show (S.fates.set who .gone).length ≤ 20; rw [hl]; exact ok.many, ok.size, fun v hv => by show VerOk S.cols ((S.fates.set who .gone).length : Int) 99 v; rw [hl]; exact ok.vers v hv, ok.rise, ok.far, by show (nums (S.fates.set who .gone)).Perm _; rw [hn]; exact ok.nums, by show S.views.length = (S.fates.set who .gone).length; rw [hl]; exact ok.views, fun x hx => by show 0 ≤ x ∧ x ≤ ((nums (S.fates.set who .gone)).length : Int); rw [hn]; exact ok.view x hx⟩, d.at_, d.row⟩
  | done who h =>
    have hn := nums_set_done (n := (nums S.fates).length + 1) h
    have hln : (nums (S.fates.set who (.done ((nums S.fates).length + 1)))).length = (nums S.fates).length + 1 := by rw [hn.length_eq]; simp
    have hl : (S.fates.set who (.done ((nums S.fates).length + 1))).length = S.fates.length := List.length_set
    refine ⟨⟨ok.cols, by show (S.fates.set who _).length ≤ 20; rw [hl]; exact ok.many, ok.size, fun v hv => by show VerOk S.cols ((S.fates.set who _).length : Int) 99 v; rw [hl]; exact ok.vers v hv, ok.rise, ok.far, ?_, by show S.views.length = (S.fates.set who _).length; rw [hl]; exact ok.views, fun x hx => ?_⟩, d.at_, d.row⟩
    · show (nums (S.fates.set who (.done ((nums S.fates).length + 1)))).Perm (upI (nums (S.fates.set who (.done ((nums S.fates).length + 1)))).length)
      rw [hln, upI_succ]
      exact hn.trans ((List.Perm.cons _ ok.nums).trans (List.perm_append_comm (l₁ := [_])))
    · have := ok.view x hx
      show 0 ≤ x ∧ x ≤ ((nums (S.fates.set who (.done ((nums S.fates).length + 1)))).length : Int)
      rw [hln]
      exact ⟨this.1, by push_cast; omega⟩
  | @wrote who h hz vs w =>
    have hlen := wrote_len w
    have hwho : who < S.fates.length := (List.getElem?_eq_some_iff.mp h).1
    have key : ∀ i u, vs[i]? = some u → VerOk S.cols S.fates.length 99 u ∧ u.place = ((i : Nat) : Int) ∧ u.row < vs.length := fun i u e => by
      have hi := (List.getElem?_eq_some_iff.mp e).1
      have hsz := ok.size
      rcases wrote_at w e with z | ⟨v, z, rfl⟩ | ⟨rfl, z1, z2, z3, z4, z5, z6⟩
      · exact ⟨ok.vers u (List.mem_of_getElem? z), d.at_ i u z, by have := d.row u (List.mem_of_getElem? z); omega⟩
      · have y := ok.vers v (List.mem_of_getElem? z)
        refine ⟨⟨y.place, y.row, y.cols, y.vals, y.maker, fun j q => ?_, y.root⟩, d.at_ i v z, by have := d.row v (List.mem_of_getElem? z); show v.row < _; omega⟩
        cases q
        exact ⟨by omega, by omega⟩
      · rcases z6 with ⟨r1, r2, r3⟩ | ⟨v, hv, r1, r2⟩
        · exact ⟨⟨by omega, ⟨r1, by omega⟩, z4, z5, ⟨by omega, by omega⟩, fun j q => by (rw [z3] at q; cases q), ⟨by omega, by omega⟩⟩, z1, by omega⟩
        · have y := ok.vers v hv
          have hp : v.place < S.vers.length := by
            obtain ⟨j, hj, ej⟩ := List.mem_iff_getElem.mp hv
            have := d.at_ j v (by rw [List.getElem?_eq_getElem hj, ej])
            omega
          have hrow := d.row v hv
          have hrt := y.root
          have hry := y.row
          refine ⟨⟨by omega, ⟨by omega, by omega⟩, z4, z5, ⟨by omega, by omega⟩, fun j q => by (rw [z3] at q; cases q), ?_⟩, z1, by omega⟩
          rcases r2 with r2 | r2 <;> exact ⟨by omega, by omega⟩
    have mem : ∀ u ∈ vs, ∃ i, vs[i]? = some u := fun u hu => by
      obtain ⟨i, hi, e⟩ := List.mem_iff_getElem.mp hu
      exact ⟨i, by rw [List.getElem?_eq_getElem hi, e]⟩
    refine ⟨⟨ok.cols, ok.many, by show vs.length ≤ 40; omega, fun u hu => ?_, rise_of fun i u e => (key i u e).2.1, fun u hu => ?_, ok.nums, ok.views, ok.view⟩, fun i u e => (key i u e).2.1, fun u hu => ?_⟩
    · obtain ⟨i, e⟩ := mem u hu
      exact (key i u e).1
    · obtain ⟨i, e⟩ := mem u hu
      have := (key i u e).2.1
      have hi := (List.getElem?_eq_some_iff.mp e).1
      have hsz := ok.size
      omega
    · obtain ⟨i, e⟩ := mem u hu
      exact (key i u e).2.2
theorem Reach.ok {w : Int} {S : Stand} (hw : 1 ≤ w ∧ w ≤ 3) (r : Reach w S) : DeedOk S := by
  induction r with
  | nil => exact ⟨⟨hw, Nat.zero_le _, Nat.zero_le _, fun v hv => (by cases hv), List.Pairwise.nil, fun v hv => (by cases hv), List.Perm.refl _, rfl, fun x hx => (by cases hx)⟩, fun i v e => (by simp at e), fun v hv => (by cases hv)⟩
  | step r s ih => exact ih.step s
theorem Reach.cols {w : Int} {S : Stand} (r : Reach w S) : S.cols = w := by
  induction r with
  | nil => rfl
  | step r s ih => cases s <;> exact ih

/-! ### a stand drawn by deeds -/
local macro_rules | `(tactic| walk_at "fd1") => `(tactic| first
  | walk_at "dl1"
  | ((with_reducible apply r_ixD); walk_at "hp"; exact rfl; (first | exact fv_cells | exact fv_at | exact fv_left | exact fv_turn))
  | ((with_reducible apply k_setD); walk_at "hp"; exact rfl; (show (4 : Nat) < 16777216; decide); (first | rw [fp_at] | rw [fp_left] | rw [fp_turn])))
local macro_rules | `(tactic| walk_at "fd") => `(tactic| repeat walk_at "fd1")
section
variable {h : MH} {Q : DK} {E : DXK}
end

/-! ### a writer that isn't gone sees at most one version of a row -/
def Gn (fs : List Fate) (m : Int) : Prop := fs[m.toNat]? = some .gone
def LeW (fs : List Fate) (vw : List Int) (a b : Int) : Prop := a = b ∨ ∃ n, fs[a.toNat]? = some (.done n) ∧ n ≤ viewAt vw b
structure Uq (S : Stand) : Prop where
  vd : ∀ (b : Nat) (n : Int), S.fates[b]? = some (.done n) → (S.views[b]?).getD 0 < n
  ch : ∀ (i j : Nat) (v u : Ver), i < j → S.vers[i]? = some v → S.vers[j]? = some u → v.row = u.row → Gn S.fates v.maker ∨ Gn S.fates u.maker ∨ ∃ e, v.ender = some e ∧ LeW S.fates S.views e u.maker
theorem on_iffU {fs : List Fate} {i w view : Int} : isOn fs (some i) (some w) view = true ↔ w = i ∨ ∃ n, fs[i.toNat]? = some (.done n) ∧ n ≤ view := by
  show (decide ((some w : Option Int) = some i) || doneBy fs (some i) view) = true ↔ _
  rw [Bool.or_eq_true, decide_eq_true_eq, Option.some.injEq]
  refine or_congr Iff.rfl ?_
  unfold doneBy
  dsimp only
  cases q : fs[i.toNat]? with
  | none => simp
  | some f =>
    cases f with
    | live => simp
    | gone => simp
    | done n => simp
theorem onV_iffU {fs : List Fate} {w view : Int} {v : Ver} (h : onV fs (some w) view v = true) : isOn fs (some v.maker) (some w) view = true ∧ ∀ e, v.ender = some e → ¬ isOn fs (some e) (some w) view = true := by
  unfold onV at h
  rw [Bool.and_eq_true] at h
  refine ⟨h.1, fun e he z => ?_⟩
  rw [he, z] at h
  exact absurd h.2 (by decide)
theorem on_notGn {fs : List Fate} {i w view : Int} (hw : ¬ Gn fs w) (h : isOn fs (some i) (some w) view = true) : ¬ Gn fs i := fun g => by
  rcases on_iffU.mp h with e | ⟨n, e, _⟩
  · exact hw (e ▸ g)
  · unfold Gn at g
    rw [g] at e
    cases e
theorem le_on {S : Stand} (u : Uq S) {a b w : Int} (l : LeW S.fates S.views a b) (h : isOn S.fates (some b) (some w) (viewAt S.views w) = true) : isOn S.fates (some a) (some w) (viewAt S.views w) = true := by
  refine on_iffU.mpr ?_
  rcases l with e | ⟨n, e, hn⟩
  · subst e; exact on_iffU.mp h
  · refine .inr ⟨n, e, ?_⟩
    rcases on_iffU.mp h with z | ⟨m, z, hm⟩
    · rw [z]; exact hn
    · have y := u.vd _ _ z
      have y2 : viewAt S.views b < m := y
      omega
/-- two versions of one row, seen by one that isn't gone -/
theorem Uq.one {S : Stand} (u : Uq S) {w : Int} (hw : ¬ Gn S.fates w) {i j : Nat} {v x : Ver} (hij : i < j) (hi : S.vers[i]? = some v) (hj : S.vers[j]? = some x) (hr : v.row = x.row)
    (h1 : onV S.fates (some w) (viewAt S.views w) v = true) (h2 : onV S.fates (some w) (viewAt S.views w) x = true) : False := by
  obtain ⟨m1, e1⟩ := onV_iffU h1
  obtain ⟨m2, _⟩ := onV_iffU h2
  rcases u.ch i j v x hij hi hj hr with z | z | ⟨e, he, l⟩
  · exact on_notGn hw m1 z
  · exact on_notGn hw m2 z
  · exact e1 e he (le_on u l m2)
theorem gn_setU {fs : List Fate} {who : Nat} {f : Fate} (hl : fs[who]? = some .live) {m : Int} (h : Gn fs m) : Gn (fs.set who f) m := by
  unfold Gn at h ⊢
  rw [List.getElem?_set_ne]
  · exact h
  · intro e
    rw [← e, hl] at h
    cases h
theorem done_setU {fs : List Fate} {who : Nat} {f : Fate} (hl : fs[who]? = some .live) {b : Nat} {n : Int} (h : fs[b]? = some (.done n)) : (fs.set who f)[b]? = some (.done n) := by
  rw [List.getElem?_set_ne]
  · exact h
  · intro e
    rw [← e, hl] at h
    cases h
theorem Uq.fates {S : Stand} (u : Uq S) {who : Nat} {f : Fate} (hl : S.fates[who]? = some .live) (hv : ∀ n, f = .done n → (S.views[who]?).getD 0 < n) : Uq ⟨S.cols, S.vers, S.fates.set who f, S.views⟩ := by
  refine ⟨fun b n h => ?_, fun i j v x hij hi hj hr => ?_⟩
  · have h' : (S.fates.set who f)[b]? = some (.done n) := h
    by_cases e : who = b
    · subst e
      have hlt : who < S.fates.length := (List.getElem?_eq_some_iff.mp hl).1
      rw [List.getElem?_set_self hlt] at h'
      exact hv n (Option.some.inj h')
    · rw [List.getElem?_set_ne e] at h'
      exact u.vd b n h'
  · rcases u.ch i j v x hij hi hj hr with z | z | ⟨e, he, l⟩
    · exact .inl (gn_setU hl z)
    · exact .inr (.inl (gn_setU hl z))
    · refine .inr (.inr ⟨e, he, ?_⟩)
      rcases l with z | ⟨n, z, hn⟩
      · exact .inl z
      · exact .inr ⟨n, done_setU hl z, hn⟩
theorem set_atU {l : List Ver} {i : Nat} {v x : Ver} (hi : l[i]? = some v) {a : Nat} {y : Ver} (h : (l.set i x)[a]? = some y) : (a = i ∧ y = x) ∨ (a ≠ i ∧ l[a]? = some y) := by
  by_cases e : i = a
  · subst e
    rw [List.getElem?_set_self (List.getElem?_eq_some_iff.mp hi).1] at h
    exact .inl ⟨rfl, (Option.some.inj h).symm⟩
  · rw [List.getElem?_set_ne e] at h
    exact .inr ⟨fun z => e z.symm, h⟩
theorem app_atU {l : List Ver} {x y : Ver} {a : Nat} (h : (l ++ [x])[a]? = some y) : (a = l.length ∧ y = x) ∨ (a < l.length ∧ l[a]? = some y) := by
  rcases Nat.lt_or_ge a l.length with z | z
  · rw [List.getElem?_append_left z] at h
    exact .inr ⟨z, h⟩
  · rw [List.getElem?_append_right z] at h
    have e : a - l.length = 0 := by
      have := (List.getElem?_eq_some_iff.mp h).1
      simp at this
      omega
    rw [e] at h
    exact .inl ⟨by omega, (Option.some.inj h).symm⟩
/-- one version's ender is written -/
theorem Uq.ended {S : Stand} (u : Uq S) {i0 : Nat} {v0 : Ver} {wr : Int} (h0 : S.vers[i0]? = some v0) (he : ∀ j, v0.ender = some j → S.fates[j.toNat]? = some .gone) :
    ∀ (i j : Nat) (v x : Ver), i < j → (S.vers.set i0 { v0 with ender := some wr })[i]? = some v → (S.vers.set i0 { v0 with ender := some wr })[j]? = some x → v.row = x.row → Gn S.fates v.maker ∨ Gn S.fates x.maker ∨ ∃ e, v.ender = some e ∧ LeW S.fates S.views e x.maker := by
  intro i j v x hij hi hj hr
  obtain ⟨x1, b1, b2, b3⟩ : ∃ x1, S.vers[j]? = some x1 ∧ x1.row = x.row ∧ x1.maker = x.maker := by
    rcases set_atU h0 hj with ⟨e, y⟩ | ⟨_, y⟩
    · subst e y; exact ⟨v0, h0, rfl, rfl⟩
    · exact ⟨x, y, rfl, rfl⟩
  rcases set_atU h0 hi with ⟨e, y⟩ | ⟨_, y⟩
  · subst e y
    rcases u.ch i j v0 x1 hij h0 b1 (by rw [b2]; exact hr) with z | z | ⟨e, z, l⟩
    · exact .inl z
    · exact .inr (.inl (b3 ▸ z))
    · have g := he e z
      rcases l with q | ⟨n, q, _⟩
      · exact .inr (.inl (by rw [← b3, ← q]; exact g))
      · rw [g] at q; cases q
  · rcases u.ch i j v x1 hij y b1 (by rw [b2]; exact hr) with z | z | ⟨e, z, l⟩
    · exact .inl z
    · exact .inr (.inl (b3 ▸ z))
    · exact .inr (.inr ⟨e, z, b3 ▸ l⟩)
theorem Uq.step {S S' : Stand} (d : DeedOk S) (u : Uq S) (s : Step S S') : Uq S' := by
  have ok := d.ok
  cases s with
  | begin h =>
    have mk : ∀ v ∈ S.vers, v.maker.toNat < S.fates.length := fun v hv => by
      have := (ok.vers v hv).maker
      omega
    have fl : ∀ {b : Nat} {f : Fate}, S.fates[b]? = some f → (S.fates ++ [Fate.live])[b]? = some f := fun {b f} e => by
      rw [List.getElem?_append_left (List.getElem?_eq_some_iff.mp e).1]; exact e
    refine ⟨fun b n e => ?_, fun i j v x hij hi hj hr => ?_⟩
    · have e' : (S.fates ++ [Fate.live])[b]? = some (.done n) := e
      rcases Nat.lt_or_ge b S.fates.length with z | z
      · rw [List.getElem?_append_left z] at e'
        show ((S.views ++ [((nums S.fates).length : Int)])[b]?).getD 0 < n
        rw [List.getElem?_append_left (by rw [ok.views]; exact z)]
        exact u.vd b n e'
      · rw [List.getElem?_append_right z] at e'
        have y : b - S.fates.length = 0 := by
          have := (List.getElem?_eq_some_iff.mp e').1
          simp at this
          omega
        rw [y] at e'
        cases e'
    · rcases u.ch i j v x hij hi hj hr with z | z | ⟨e, he, l⟩
      · exact .inl (fl z)
      · exact .inr (.inl (fl z))
      · refine .inr (.inr ⟨e, he, ?_⟩)
        rcases l with z | ⟨n, z, hn⟩
        · exact .inl z
        · refine .inr ⟨n, fl z, ?_⟩
          show n ≤ ((S.views ++ [((nums S.fates).length : Int)])[x.maker.toNat]?).getD 0
          rw [List.getElem?_append_left (by rw [ok.views]; exact mk x (List.mem_of_getElem? hj))]
          exact hn
  | gone who h => exact u.fates h fun n z => by cases z
  | done who h =>
    refine u.fates h fun n z => ?_
    cases z
    cases q : S.views[who]? with
    | none => show (0 : Int) < _; omega
    | some y =>
      have := (ok.view y (List.mem_of_getElem? q)).2
      show y < _
      omega
  | wrote who h hz w =>
    have nw : ¬ Gn S.fates (who : Int) := fun g => by
      have g' : S.fates[who]? = some .gone := g
      rw [h] at g'
      cases g'
    refine ⟨u.vd, ?_⟩
    cases w with
    | put row vals hr h0 hl hb =>
      intro i j v x hij hi hj hrow
      rcases app_atU hj with ⟨e, y⟩ | ⟨lt, y⟩
      · rcases app_atU hi with ⟨e2, _⟩ | ⟨_, y2⟩
        · omega
        · have := hr v (List.mem_of_getElem? y2)
          rw [hrow, y] at this
          exact absurd this (Int.lt_irrefl _)
      · rcases app_atU hi with ⟨e2, _⟩ | ⟨_, y2⟩
        · omega
        · exact u.ch i j v x hij y2 y hrow
    | strike i0 v0 hi0 hs he => exact u.ended hi0 he
    | turn i0 v0 vals root hi0 hs he hl hb hr =>
      intro i j v x hij hi hj hrow
      obtain ⟨on0, _⟩ := onV_iffU hs
      have g0 := on_notGn nw on0
      rcases app_atU hj with ⟨ej, y⟩ | ⟨ltj, y⟩
      · rcases app_atU hi with ⟨e2, _⟩ | ⟨_, y2⟩
        · omega
        · subst y
          have hrow' : v.row = v0.row := hrow
          rcases set_atU hi0 y2 with ⟨e3, y3⟩ | ⟨n3, y3⟩
          · subst y3
            exact .inr (.inr ⟨_, rfl, .inl rfl⟩)
          · rcases Nat.lt_or_gt_of_ne n3 with lt | gt
            · rcases u.ch i i0 v v0 lt y3 hi0 hrow' with z | z | ⟨e, z, l⟩
              · exact .inl z
              · exact absurd z g0
              · have o := le_on u l on0
                refine .inr (.inr ⟨e, z, ?_⟩)
                rcases on_iffU.mp o with q | ⟨n, q, hn⟩
                · exact .inl q.symm
                · exact .inr ⟨n, q, hn⟩
            · rcases u.ch i0 i v0 v gt hi0 y3 hrow'.symm with z | z | ⟨e, z, l⟩
              · exact absurd z g0
              · exact .inl z
              · have g := he e z
                rcases l with q | ⟨n, q, _⟩
                · exact .inl (by rw [← q]; exact g)
                · rw [g] at q; cases q
      · rcases app_atU hi with ⟨e2, _⟩ | ⟨_, y2⟩
        · rw [List.length_set] at e2 ltj
          omega
        · exact u.ended hi0 he i j v x hij y2 y hrow
/-! ### what may go -/
section
variable {h : MH} {Q : DK} {E : DXK} {S : Stand} {v : Ver} {least c : Int}
end
/-! ### while, ranges with steps, sorted sets of tuples -/
/-! sorted sets -/
/-! ### things of any kind -/
def isTupB : PyData → Bool
  | .tuple _ => true
  | _ => false
def isLstB : PyData → Bool
  | .list _ => true
  | _ => false
def isStrB : PyData → Bool
  | .str _ => true
  | _ => false
def isBoolB : PyData → Bool
  | .bool _ => true
  | _ => false
def isIntB : PyData → Bool
  | .int _ => true
  | .bool _ => true
  | _ => false
def numB : PyData → Bool
  | .int _ => true
  | _ => false
def itemsT : PyData → List PyData
  | .tuple xs => xs
  | _ => []
theorem kb_tup : ∀ d : PyData, kitB (tyN d) "tuple" = some (isTupB d)
  | .none => (by decide +kernel : kitB "NoneType" "tuple" = some false)
  | .bool _ => (by decide +kernel : kitB "bool" "tuple" = some false)
  | .int _ => (by decide +kernel : kitB "int" "tuple" = some false)
  | .str _ => (by decide +kernel : kitB "str" "tuple" = some false)
  | .list _ => (by decide +kernel : kitB "list" "tuple" = some false)
  | .tuple _ => (by decide +kernel : kitB "tuple" "tuple" = some true)
  | .dict _ => (by decide +kernel : kitB "dict" "tuple" = some false)
theorem kb_lst : ∀ d : PyData, kitB (tyN d) "list" = some (isLstB d)
  | .none => (by decide +kernel : kitB "NoneType" "list" = some false)
  | .bool _ => (by decide +kernel : kitB "bool" "list" = some false)
  | .int _ => (by decide +kernel : kitB "int" "list" = some false)
  | .str _ => (by decide +kernel : kitB "str" "list" = some false)
  | .list _ => (by decide +kernel : kitB "list" "list" = some true)
  | .tuple _ => (by decide +kernel : kitB "tuple" "list" = some false)
  | .dict _ => (by decide +kernel : kitB "dict" "list" = some false)
theorem kb_str : ∀ d : PyData, kitB (tyN d) "str" = some (isStrB d)
  | .none => (by decide +kernel : kitB "NoneType" "str" = some false)
  | .bool _ => (by decide +kernel : kitB "bool" "str" = some false)
  | .int _ => (by decide +kernel : kitB "int" "str" = some false)
  | .str _ => (by decide +kernel : kitB "str" "str" = some true)
  | .list _ => (by decide +kernel : kitB "list" "str" = some false)
  | .tuple _ => (by decide +kernel : kitB "tuple" "str" = some false)
  | .dict _ => (by decide +kernel : kitB "dict" "str" = some false)
theorem kb_bool : ∀ d : PyData, kitB (tyN d) "bool" = some (isBoolB d)
  | .none => (by decide +kernel : kitB "NoneType" "bool" = some false)
  | .bool _ => (by decide +kernel : kitB "bool" "bool" = some true)
  | .int _ => (by decide +kernel : kitB "int" "bool" = some false)
  | .str _ => (by decide +kernel : kitB "str" "bool" = some false)
  | .list _ => (by decide +kernel : kitB "list" "bool" = some false)
  | .tuple _ => (by decide +kernel : kitB "tuple" "bool" = some false)
  | .dict _ => (by decide +kernel : kitB "dict" "bool" = some false)
theorem kb_int : ∀ d : PyData, kitB (tyN d) "int" = some (isIntB d)
  | .none => (by decide +kernel : kitB "NoneType" "int" = some false)
  | .bool _ => (by decide +kernel : kitB "bool" "int" = some true)
  | .int _ => (by decide +kernel : kitB "int" "int" = some true)
  | .str _ => (by decide +kernel : kitB "str" "int" = some false)
  | .list _ => (by decide +kernel : kitB "list" "int" = some false)
  | .tuple _ => (by decide +kernel : kitB "tuple" "int" = some false)
  | .dict _ => (by decide +kernel : kitB "dict" "int" = some false)
theorem tup_of {d : PyData} (h : isTupB d = true) : ∃ xs, d = .tuple xs := by
  cases d <;> first | exact ⟨_, rfl⟩ | cases h
theorem num_of {d : PyData} (h : numB d = true) : ∃ i, d = .int i := by
  cases d <;> first | exact ⟨_, rfl⟩ | cases h
theorem bools_map {α : Type} (p : α → Bool) : ∀ l : List α, bools (l.map fun a => PyData.bool (p a)) = some (l.map p)
  | [] => rfl
  | a :: l => by
    show (match bools (l.map fun a => PyData.bool (p a)) with
      | some bs => some (p a :: bs)
      | none => none) = _
    rw [bools_map p l]
    rfl
section
variable {h : MH} {Q : DK} {E : DXK} {σ : DSt}
theorem k_isTup {d : PyData} (k : Q (.d (.bool (isTupB d))) h) : isK "tuple" Q (.d d) h := k_isT rfl (kb_tup d) k
theorem k_isLst {d : PyData} (k : Q (.d (.bool (isLstB d))) h) : isK "list" Q (.d d) h := k_isT rfl (kb_lst d) k
theorem k_isStr {d : PyData} (k : Q (.d (.bool (isStrB d))) h) : isK "str" Q (.d d) h := k_isT rfl (kb_str d) k
theorem k_isBool {d : PyData} (k : Q (.d (.bool (isBoolB d))) h) : isK "bool" Q (.d d) h := k_isT rfl (kb_bool d) k
theorem k_isInt {d : PyData} (k : Q (.d (.bool (isIntB d))) h) : isK "int" Q (.d d) h := k_isT rfl (kb_int d) k
theorem b_allP {α : Type} {l : List α} {p : α → Bool} (k : Q (.d (.bool (l.all p))) h) : rdAll [.d (.list (l.map fun a => PyData.bool (p a)))] h Q := by
  show (match bools (l.map fun a => PyData.bool (p a)) with
    | some bs => Q (.d (.bool (bs.all id))) h
    | none => False)
  rw [bools_map]
  show Q (.d (.bool ((l.map p).all id))) h
  rw [List.all_map]
  exact k
end
local macro_rules | `(tactic| walk_at "gl1") => `(tactic| first
  | walk_at "dl1"
  | with_reducible refine e_wZip ?_
  | with_reducible refine k_zipT ?_
  | with_reducible refine e_isT ?_
  | with_reducible refine k_isTup ?_
  | with_reducible refine k_isLst ?_
  | with_reducible refine k_isStr ?_
  | with_reducible refine k_isBool ?_
  | with_reducible refine k_isInt ?_)
local macro_rules | `(tactic| walk_at "gl") => `(tactic| repeat walk_at "gl1")
section
variable {h : MH} {Q : DK} {E : DXK} {σ : DSt}
theorem w_is_numberG {d : PyData} (k : Q (.d (.bool (numB d))) h) : W_is_number [.d d] h Q E := by
  refine fnW_mk rfl ?_
  unfold t_is_number
  show dRet _ _ [some (.d d)] h
  walk_at "gl"
  refine k_andV (fun q => ?_) fun q => ?_
  · walk_at "gl"
    rw [restr_self]
    have e : numB d = !isBoolB d := by cases d <;> first | rfl | cases q
    rw [e] at k
    exact k
  · walk_at "gl"
    rw [restr_self]
    have e : numB d = false := by cases d <;> first | rfl | cases q
    rw [e] at k
    exact k
end
/-! rising triples -/
section
variable {h : MH} {Q : DK} {E : DXK} {σ : DSt}
end

/-! ### data with great numbers, composed; spoilt things -/
def bOk : Nat → PyData → Bool
  | _, .none => true
  | _, .bool _ => true
  | _, .int i => decide (i.natAbs < 10 ^ 60)
  | _, .str x => PySem.PyData.strOk x && decide ((reprText x).length ≤ 60)
  | n + 1, .list xs => xs.all (bOk n)
  | n + 1, .tuple xs => xs.all (bOk n)
  | 0, .list _ => false
  | 0, .tuple _ => false
  | _, .dict _ => false
theorem bOk_dOk : ∀ (n : Nat) (d : PyData), bOk n d = true → dOk n d = true
  | n, .none, _ => by cases n <;> rfl
  | n, .bool _, _ => by cases n <;> rfl
  | n, .int _, _ => by cases n <;> rfl
  | n, .str x, h => by cases n <;> simp [bOk] at h <;> simpa [dOk] using h.1
  | n + 1, .list xs, h => by
    have z : ∀ x ∈ xs, bOk n x = true := List.all_eq_true.mp (by simpa [bOk] using h)
    simp only [dOk]
    exact List.all_eq_true.mpr fun x hx => bOk_dOk n x (z x hx)
  | n + 1, .tuple xs, h => by
    have z : ∀ x ∈ xs, bOk n x = true := List.all_eq_true.mp (by simpa [bOk] using h)
    simp only [dOk]
    exact List.all_eq_true.mpr fun x hx => bOk_dOk n x (z x hx)
  | 0, .list _, h => by simp [bOk] at h
  | 0, .tuple _, h => by simp [bOk] at h
  | n, .dict _, h => by cases n <;> simp [bOk] at h
theorem bOk_up : ∀ (n m : Nat) (d : PyData), n ≤ m → bOk n d = true → bOk m d = true
  | n, m, .none, _, _ => by cases m <;> rfl
  | n, m, .bool _, _, _ => by cases m <;> rfl
  | n, m, .int _, _, h => by cases n <;> cases m <;> simpa [bOk] using h
  | n, m, .str x, _, h => by cases n <;> cases m <;> simpa [bOk] using h
  | n + 1, m + 1, .list xs, hl, h => by
    have z : ∀ x ∈ xs, bOk n x = true := List.all_eq_true.mp (by simpa [bOk] using h)
    simp only [bOk]
    exact List.all_eq_true.mpr fun x hx => bOk_up n m x (by omega) (z x hx)
  | n + 1, m + 1, .tuple xs, hl, h => by
    have z : ∀ x ∈ xs, bOk n x = true := List.all_eq_true.mp (by simpa [bOk] using h)
    simp only [bOk]
    exact List.all_eq_true.mpr fun x hx => bOk_up n m x (by omega) (z x hx)
  | n + 1, 0, .list _, hl, _ => by omega
  | n + 1, 0, .tuple _, hl, _ => by omega
  | 0, _, .list _, _, h => by simp [bOk] at h
  | 0, _, .tuple _, _, h => by simp [bOk] at h
  | n, _, .dict _, _, h => by cases n <;> simp [bOk] at h
theorem nodes_upB : ∀ (n m : Nat) (d : PyData), n ≤ m → bOk n d = true → nodes m d = nodes n d
  | n, m, .none, _, _ => by cases n <;> cases m <;> rfl
  | n, m, .bool _, _, _ => by cases n <;> cases m <;> rfl
  | n, m, .int _, _, _ => by cases n <;> cases m <;> rfl
  | n, m, .str x, _, _ => by cases n <;> cases m <;> rfl
  | n + 1, m + 1, .list xs, hl, h => by
    have z : ∀ x ∈ xs, bOk n x = true := List.all_eq_true.mp (by simpa [bOk] using h)
    show 1 + (xs.map (nodes m)).sum = 1 + (xs.map (nodes n)).sum
    rw [List.map_congr_left fun x hx => nodes_upB n m x (by omega) (z x hx)]
  | n + 1, m + 1, .tuple xs, hl, h => by
    have z : ∀ x ∈ xs, bOk n x = true := List.all_eq_true.mp (by simpa [bOk] using h)
    show 1 + (xs.map (nodes m)).sum = 1 + (xs.map (nodes n)).sum
    rw [List.map_congr_left fun x hx => nodes_upB n m x (by omega) (z x hx)]
  | n + 1, 0, .list _, hl, _ => by omega
  | n + 1, 0, .tuple _, hl, _ => by omega
  | 0, _, .list _, _, h => by simp [bOk] at h
  | 0, _, .tuple _, _, h => by simp [bOk] at h
  | n, _, .dict _, _, h => by cases n <;> simp [bOk] at h
theorem sum_leB {f g : PyData → Nat} : ∀ {xs : List PyData}, (∀ x ∈ xs, f x + 2 ≤ 66 * g x) → (xs.map f).sum + 2 * xs.length ≤ 66 * (xs.map g).sum
  | [], _ => by simp
  | x :: xs, h => by
    have a := h x List.mem_cons_self
    have b := sum_leB (xs := xs) fun y hy => h y (List.mem_cons_of_mem _ hy)
    simp only [List.map_cons, List.sum_cons, List.length_cons]
    omega
theorem show_leB : ∀ (n : Nat) (d : PyData), bOk n d = true → d.shown.length + 2 ≤ 66 * nodes n d ∧ d.showable = true
  | n, .none, _ => ⟨by cases n <;> (simp only [nodes]; decide), by simp only [PyData.showable]⟩
  | n, .bool b, _ => ⟨by cases n <;> cases b <;> (simp only [nodes]; decide), by simp only [PyData.showable]⟩
  | n, .int i, h => by
    have z : i.natAbs < 10 ^ 60 := by cases n <;> simpa [bOk] using h
    have e : (Str.ofString (toString i)).length ≤ 61 := by
      rw [PySem.ofString_length]
      exact int_text_length_le10 (k := 60) (by decide) z
    refine ⟨?_, ?_⟩
    · have e2 : (PyData.int i).shown = Str.ofString (toString i) := by simp only [PyData.shown] <;> rfl
      rw [e2]
      cases n <;> (simp only [nodes]; omega)
    · simp only [PyData.showable]
      refine decide_eq_true ?_
      by_cases q : i.natAbs = 0
      · rw [q]; decide
      · exact Nat.lt_trans ((Nat.log2_lt (k := 200) q).mpr (Nat.lt_trans z (by decide +kernel))) (by decide)
  | n, .str x, h => by
    have z : (reprText x).length ≤ 60 := by cases n <;> (simp [bOk] at h; exact h.2)
    refine ⟨?_, by simp only [PyData.showable]⟩
    have e2 : (PyData.str x).shown = reprText x := by simp only [PyData.shown]
    rw [e2]
    cases n <;> (simp only [nodes]; omega)
  | n + 1, .list xs, h => by
    have z : ∀ x ∈ xs, bOk n x = true := List.all_eq_true.mp (by simpa [bOk] using h)
    have a := listText_len_le (PyData.shownAll xs)
    have b := sum_leB (f := fun x => x.shown.length) (g := nodes n) fun x hx => (show_leB n x (z x hx)).1
    rw [shownAll_eq, List.map_map, List.length_map] at a
    refine ⟨?_, ?_⟩
    · have e2 : (PyData.list xs).shown = listText (xs.map PyData.shown) := by simp only [PyData.shown, shownAll_eq]
      rw [e2]
      simp only [nodes]
      have c : (xs.map ((fun x => x.length) ∘ PyData.shown)).sum = (xs.map fun x => x.shown.length).sum := rfl
      omega
    · simp only [PyData.showable]
      clear a b h
      induction xs with
      | nil => rfl
      | cons x xs ih =>
        simp only [PyData.showableAll, Bool.and_eq_true]
        exact ⟨(show_leB n x (z x List.mem_cons_self)).2, ih fun y hy => z y (List.mem_cons_of_mem _ hy)⟩
  | n + 1, .tuple xs, h => by
    have z : ∀ x ∈ xs, bOk n x = true := List.all_eq_true.mp (by simpa [bOk] using h)
    have a := tupleText_len_le (PyData.shownAll xs)
    have b := sum_leB (f := fun x => x.shown.length) (g := nodes n) fun x hx => (show_leB n x (z x hx)).1
    rw [shownAll_eq, List.map_map, List.length_map] at a
    refine ⟨?_, ?_⟩
    · have e2 : (PyData.tuple xs).shown = tupleText (xs.map PyData.shown) := by simp only [PyData.shown, shownAll_eq]
      rw [e2]
      simp only [nodes]
      have c : (xs.map ((fun x => x.length) ∘ PyData.shown)).sum = (xs.map fun x => x.shown.length).sum := rfl
      omega
    · simp only [PyData.showable]
      clear a b h
      induction xs with
      | nil => rfl
      | cons x xs ih =>
        simp only [PyData.showableAll, Bool.and_eq_true]
        exact ⟨(show_leB n x (z x List.mem_cons_self)).2, ih fun y hy => z y (List.mem_cons_of_mem _ hy)⟩
  | 0, .list _, h => by simp [bOk] at h
  | 0, .tuple _, h => by simp [bOk] at h
  | n, .dict _, h => by cases n <;> simp [bOk] at h
theorem reprOk_ofB {n : Nat} {d : PyData} (hn : n ≤ 32) (h : bOk n d = true) (hz : 66 * nodes n d ≤ 16777216) : reprOk d := by
  obtain ⟨a, b⟩ := show_leB n d h
  obtain ⟨c, e⟩ := dOk_ok n d (bOk_dOk n d h)
  exact ⟨b, PyData.hasDict_of_canLay d c, by omega, by rw [sizeLine_eq]; omega⟩
def Big (n c : Nat) (d : PyData) : Prop := bOk n d = true ∧ nodes n d ≤ c
def BigL (n c : Nat) (xs : List PyData) : Prop := (∀ x ∈ xs, bOk n x = true) ∧ (xs.map (nodes n)).sum ≤ c
theorem Big.repr {n c : Nat} {d : PyData} (h : Big n c d) (hn : n ≤ 32 := by first | decide | omega) (hc : c ≤ 250000 := by first | decide | omega) : reprOk d := reprOk_ofB hn h.1 (by have := h.2; omega)
theorem Big.shaped {n c : Nat} {d : PyData} (h : Big n c d) (hn : n ≤ 64 := by first | decide | omega) : SeqAt.shaped d = true := shaped_ok hn (bOk_dOk n d h.1)
theorem Big.up {n m c c' : Nat} {d : PyData} (h : Big n c d) (hn : n ≤ m := by first | decide | omega) (hc : c ≤ c' := by first | decide | omega) : Big m c' d := ⟨bOk_up n m d hn h.1, by rw [nodes_upB n m d hn h.1]; exact Nat.le_trans h.2 hc⟩
theorem BigL.up {n m c c' : Nat} {d : List PyData} (h : BigL n c d) (hn : n ≤ m := by first | decide | omega) (hc : c ≤ c' := by first | decide | omega) : BigL m c' d := ⟨fun x hx => bOk_up n m x hn (h.1 x hx), by
  rw [List.map_congr_left fun x hx => nodes_upB n m x hn (h.1 x hx)]
  exact Nat.le_trans h.2 hc⟩
theorem BigL.nil {n : Nat} : BigL n 0 [] := ⟨fun x hx => (by cases hx), by simp⟩
theorem BigL.cons {n a b : Nat} {x : PyData} {xs : List PyData} (h : Big n a x) (t : BigL n b xs) : BigL n (a + b) (x :: xs) := ⟨fun y hy => by
  rcases List.mem_cons.mp hy with rfl | q
  · exact h.1
  · exact t.1 y q, by rw [List.map_cons, List.sum_cons]; exact Nat.add_le_add h.2 t.2⟩
theorem BigL.app {n a b : Nat} {xs ys : List PyData} (h : BigL n a xs) (t : BigL n b ys) : BigL n (a + b) (xs ++ ys) := ⟨fun y hy => by
  rcases List.mem_append.mp hy with q | q
  · exact h.1 y q
  · exact t.1 y q, by rw [List.map_append, List.sum_append]; exact Nat.add_le_add h.2 t.2⟩
theorem BigL.all {n c k : Nat} {xs : List PyData} (h : ∀ x ∈ xs, Big n c x) (hl : xs.length ≤ k) : BigL n (c * k) xs := ⟨fun x hx => (h x hx).1, Nat.le_trans (nodes_le fun x hx => (h x hx).2) (Nat.mul_le_mul_left _ hl)⟩
theorem BigL.tup {n c : Nat} {xs : List PyData} (h : BigL n c xs) : Big (n + 1) (c + 1) (.tuple xs) := ⟨by simp only [bOk]; exact List.all_eq_true.mpr h.1, by
  have e : nodes (n + 1) (.tuple xs) = 1 + (xs.map (nodes n)).sum := rfl
  rw [e]; have := h.2; omega⟩
theorem BigL.lst {n c : Nat} {xs : List PyData} (h : BigL n c xs) : Big (n + 1) (c + 1) (.list xs) := ⟨by simp only [bOk]; exact List.all_eq_true.mpr h.1, by
  have e : nodes (n + 1) (.list xs) = 1 + (xs.map (nodes n)).sum := rfl
  rw [e]; have := h.2; omega⟩
theorem Big.none {n : Nat} : Big n 1 .none := ⟨by cases n <;> rfl, by cases n <;> exact Nat.le_refl 1⟩
theorem Big.bool {n : Nat} {b : Bool} : Big n 1 (.bool b) := ⟨by cases n <;> rfl, by cases n <;> exact Nat.le_refl 1⟩
theorem Big.int {n : Nat} {i : Int} (h : -(10 ^ 59) ≤ i ∧ i ≤ 10 ^ 59) : Big n 1 (.int i) := ⟨by cases n <;> (simp only [bOk]; exact decide_eq_true (by omega)), by cases n <;> exact Nat.le_refl 1⟩
theorem Big.str {n : Nat} {x : Str} (h : (PySem.PyData.strOk x && decide ((reprText x).length ≤ 60)) = true := by decide +kernel) : Big n 1 (.str x) := ⟨by cases n <;> exact h, by cases n <;> exact Nat.le_refl 1⟩
local macro_rules | `(tactic| walk_at "gl1") => `(tactic| first
  | walk_at "dl1"
  | with_reducible refine e_isT ?_
  | with_reducible refine k_isTup ?_
  | with_reducible refine k_isLst ?_
  | with_reducible refine k_isStr ?_
  | with_reducible refine k_isBool ?_
  | with_reducible refine k_isInt ?_)
local macro_rules | `(tactic| walk_at "gl") => `(tactic| repeat walk_at "gl1")
local macro_rules | `(tactic| walk_at "dl1") => `(tactic| first
  | with_reducible refine e_wZip ?_
  | with_reducible refine k_zipT ?_
  | with_reducible refine k_zipL ?_
  | with_reducible refine e_wEnum ?_
  | with_reducible refine k_enumT ?_
  | with_reducible refine k_enumL ?_
  | with_reducible refine e_minD ?_
  | with_reducible refine e_ext ?_
  | with_reducible refine e_fAdd ?_
  | ((with_reducible apply k_ext); walk_at "hp"))
local macro_rules | `(tactic| walk_at "dl1") => `(tactic| first
  | ((with_reducible apply r_ixD); walk_at "hp"; exact rfl; (first | exact fv_cells | exact fv_at | exact fv_left | exact fv_turn))
  | ((with_reducible apply k_setD); walk_at "hp"; exact rfl; (show (4 : Nat) < 16777216; decide); (first | rw [fp_at] | rw [fp_left] | rw [fp_turn]))
  | with_reducible refine r_isB ?_
  | with_reducible refine r_notB ?_)
local macro_rules | `(tactic| walk_at "dk") => `(tactic| first | decide +kernel | exact Bool.noConfusion | (intro z; simp at z; done))
local macro_rules | `(tactic| walk_at "sk1") => `(tactic| first
  | walk_at "dl1"
  | with_reducible refine k_tg2 ?_
  | with_reducible refine k_tg3 ?_
  | with_reducible refine k_tg4 ?_
  | with_reducible refine k_tg5 ?_
  | with_reducible refine k_tg6 ?_
  | ((with_reducible refine k_if (fun _ => ?_) (fun z => absurd z ?_)); rotate_left; (focus walk_at "dk"))
  | ((with_reducible refine k_if (fun z => absurd z ?_) (fun _ => ?_)); (focus walk_at "dk"))
  | ((with_reducible refine k_and (fun _ => ?_) (fun z => absurd z ?_)); rotate_left; (focus walk_at "dk"))
  | ((with_reducible refine k_and (fun z => absurd z ?_) (fun _ => ?_)); (focus walk_at "dk"))
  | ((with_reducible refine k_or (fun _ => ?_) (fun z => absurd z ?_)); rotate_left; (focus walk_at "dk"))
  | ((with_reducible refine k_or (fun z => absurd z ?_) (fun _ => ?_)); (focus walk_at "dk"))
  | ((with_reducible refine k_ifE (fun _ => ?_) (fun z => absurd z ?_)); rotate_left; (focus walk_at "dk"))
  | ((with_reducible refine k_ifE (fun z => absurd z ?_) (fun _ => ?_)); (focus walk_at "dk"))
  | ((with_reducible refine k_andV (fun _ => ?_) (fun z => absurd z ?_)); rotate_left; (focus walk_at "dk"))
  | ((with_reducible refine k_andV (fun z => absurd z ?_) (fun _ => ?_)); (focus walk_at "dk"))
  | ((with_reducible refine k_orV (fun _ => ?_) (fun z => absurd z ?_)); rotate_left; (focus walk_at "dk"))
  | ((with_reducible refine k_orV (fun z => absurd z ?_) (fun _ => ?_)); (focus walk_at "dk"))
  | ((with_reducible apply e_isXT (b := false)); exact rfl; (try dsimp only [noW]); (decide +kernel); decide; (try dsimp only [noW]); (decide +kernel))
  | ((with_reducible apply e_isXT (b := true)); exact rfl; (try dsimp only [noW]); (decide +kernel); decide; (try dsimp only [noW]); (decide +kernel))
  | ((with_reducible apply e_isX (b := true)); exact rfl; (try dsimp only [noW]); (decide +kernel))
  | ((with_reducible apply e_isX (b := false)); exact rfl; (try dsimp only [noW]); (decide +kernel))
  | ((with_reducible apply e_xf); exact rfl; (try dsimp only [noW]); (decide +kernel); rfl)
  | with_reducible refine e_raise ?_
  | with_reducible refine k_raise ?_
  | with_reducible refine tryAs_mk ?_)
local macro_rules | `(tactic| walk_at "sk") => `(tactic| repeat walk_at "sk1")

local macro_rules | `(tactic| walk_at "dl1") => `(tactic| first
  | with_reducible refine e_isT ?_
  | with_reducible refine k_isTup ?_
  | with_reducible refine k_isLst ?_
  | with_reducible refine k_isStr ?_
  | with_reducible refine k_isBool ?_
  | with_reducible refine k_isInt ?_
  | with_reducible refine e_fn ?_
  | with_reducible refine e_revA ?_)

local macro_rules | `(tactic| walk_at "dl1") => `(tactic| first
  | with_reducible refine e_isT ?_
  | with_reducible refine k_isTup ?_
  | with_reducible refine k_isLst ?_
  | with_reducible refine k_isStr ?_
  | with_reducible refine k_isBool ?_
  | with_reducible refine k_isInt ?_)
/-! ### k01: texts, words -/
theorem str_ofB {d : PyData} (h : isStrB d = true) : ∃ x, d = .str x := by
  cases d <;> first | exact ⟨_, rfl⟩ | cases h
def lowC (c : Nat) : Bool := decide (97 ≤ c) && decide (c ≤ 122)
def wordB : PyData → Bool
  | .str z => (decide (1 ≤ z.length) && decide (z.length ≤ 8)) && z.cps.toList.all lowC
  | _ => false
theorem wordB_no {d : PyData} (h : isStrB d = false) : wordB d = false := by cases d <;> first | rfl | cases h
theorem letters_is : ("abcdefghijklmnopqrstuvwxyz" : Str).cps.toList = List.range' 97 26 := by decide +kernel
theorem in_low (c : Nat) : decide (c ∈ ("abcdefghijklmnopqrstuvwxyz" : Str).cps.toList) = lowC c := by
  rw [letters_is]
  unfold lowC
  rw [← Bool.decide_and]
  refine decide_eq_decide.mpr ?_
  rw [List.mem_range'_1]
  omega
theorem b_lenTx {h : MH} {Q : DK} {z : Str} (l : z.length ≤ 16777216) (k : Q (.d (.int z.length)) h) : rdLen [.d (.str z)] h Q := ⟨by rw [sizeLine_eq]; exact l, k⟩
def wtK (QL : List PyData → MH → Prop) (x : SV) (h : MH) : Prop := match asStr x with
  | some z => QL (txD z) h
  | none => False
theorem e_wTx2 {te : DTE} {σ : DSt} {h : MH} {QL : List PyData → MH → Prop} (k : te σ h (wtK QL)) : wTx te σ h QL := k
theorem k_wTx {z : Str} {h : MH} {QL : List PyData → MH → Prop} (k : QL (txD z) h) : wtK QL (.d (.str z)) h := k
def joK2 (a : Str) (Q : DK) (y : SV) (h : MH) : Prop := match asL h y with
  | some ds => ∃ ys : List Str, ds = ys.map PyData.str ∧ (ys.map (·.length)).sum + ys.length * a.length ≤ 16777216 ∧ Q (.d (.str (Txt.join a ys))) h
  | none => False
def joK (te : DTE) (σ : DSt) (Q : DK) (x : SV) (h : MH) : Prop := match asStr x with
  | some a => te σ h (joK2 a Q)
  | none => False
theorem e_join2 {to te : DTE} {σ : DSt} {h : MH} {Q : DK} (k : to σ h (joK te σ Q)) : dJoin to te σ h Q := k
theorem k_join1 {te : DTE} {σ : DSt} {h : MH} {Q : DK} {a : Str} (k : te σ h (joK2 a Q)) : joK te σ Q (.d (.str a)) h := k
theorem k_join2 {h : MH} {Q : DK} {a : Str} {ys : List Str} (l : (ys.map (·.length)).sum + ys.length * a.length ≤ 16777216) (k : Q (.d (.str (Txt.join a ys))) h) : joK2 a Q (.d (.list (ys.map PyData.str))) h := ⟨ys, rfl, l, k⟩
section
variable {h : MH} {Q : DK} {E : DXK}
end


/-! ### rows by kind: the program's look -/
def numI : PyData → Int
  | .int i => i
  | _ => 0
def geB (m : Int) (d : PyData) : Bool := numB d && decide (m ≤ numI d)
def colB (d : PyData) : Bool := geB 1 d && decide (numI d ≤ 3)
def vlsB (d : PyData) : Bool := isTupB d && ((decide (1 ≤ (itemsT d).length) && decide ((itemsT d).length ≤ 3)) && (itemsT d).all numB)
def kindL : List Str := ["writer", "figure", "number", "pace", "columns", "values", "truth", "name"]
def formB (f : Str) (d : PyData) : Bool :=
  if f = "writer" then geB 0 d else if f = "figure" then geB 0 d else if f = "number" then numB d else if f = "pace" then geB 1 d else if f = "columns" then colB d
  else if f = "values" then vlsB d else if f = "truth" then isBoolB d else wordB d
theorem at0 {a : PyData} {r : List PyData} : atI (a :: r) 0 = some a := at_nat (n := 0) rfl
def wlD : PyData → Nat
  | .str z => z.length
  | _ => 0
section
variable {h : MH} {Q : DK} {E : DXK} {d : PyData} {n c : Nat}
theorem w_is_wordL {d : PyData} (hd : wlD d ≤ 1000000) (k : Q (.d (.bool (wordB d))) h) : W_is_word [.d d] h Q E := by
  refine fnW_mk rfl ?_
  unfold t_is_word
  show dSeq _ _ _ [some (.d d), none] h
  have no : ∀ σ, wordB d = false → (dRet (dC (.bool false))) (dEnd h Q) σ h := fun σ q => by
    rw [q] at k
    walk_at "dl"
    rw [restr_self]
    exact k
  walk_at "dl"
  refine k_or (fun q => ?_) fun q => ?_
  · refine k_if (fun _ => ?_) fun z => by cases z
    exact no _ (wordB_no (by simpa using q))
  obtain ⟨z, rfl⟩ := str_ofB (d := d) (by simpa using q)
  have hz : z.length ≤ 1000000 := hd
  have ev : wordB (.str z) = ((decide (1 ≤ z.length) && decide (z.length ≤ 8)) && z.cps.toList.all lowC) := rfl
  rw [ev] at k no
  walk_at "dl"
  refine e_chain ?_
  walk_at "dl"
  refine b_lenTx (by omega) ?_
  walk_at "dl"
  refine k_chain (fun q1 => ?_) fun q1 => ?_
  case' refine_2 =>
    walk_at "dl"
    refine k_if (fun _ => ?_) fun z => by cases z
    refine no _ ?_
    have : ¬ 1 ≤ z.length := by have := of_decide_eq_false q1; omega
    rw [decide_eq_false this]
    rfl
  have h1 : 1 ≤ z.length := by have := of_decide_eq_true q1; omega
  walk_at "dl"
  refine k_if (fun q2 => ?_) fun q2 => ?_
  · refine no _ ?_
    have : ¬ z.length ≤ 8 := by simp at q2; omega
    rw [decide_eq_false this, Bool.and_false]
    rfl
  have h3 : z.length ≤ 8 := by simp at q2; omega
  rw [decide_eq_true h1, decide_eq_true h3, Bool.and_true, Bool.true_and] at k
  walk_at "dl"
  refine e_wTx2 ?_
  walk_at "dl"
  refine k_wTx ?_
  refine ⟨by rw [sizeLine_eq]; show (txD z).length ≤ _; unfold txD; rw [List.length_map, Array.length_toList]; show z.length ≤ _; omega, ?_⟩
  refine lc_enc (enc := fun c : Nat => PyData.str ⟨#[c]⟩) (out := fun c => .bool (lowC c)) (l := z.cps.toList) (fun _ => true) (fun c _ => ⟨_, rfl, fun K hK => ?_, fun _ K hK => ?_⟩) ?_
  · walk_at "dl"
    exact hK
  · walk_at "dl"
    refine r_inTx ?_
    rw [in_low]
    exact hK
  rw [List.filter_eq_self.mpr fun _ _ => rfl]
  walk_at "dl"
  refine b_allP ?_
  walk_at "dl"
  rw [restr_self]
  exact k
theorem w_geF {m : Int} (k : Q (.d (.bool (geB m d))) h) : (dAndV (dCall noX W_is_number (dCons (dVar 0) dNil)) (dOp rdGe (dVar 0) (dC (.int m)))) [some (.d d)] h Q := by
  walk_at "dl"
  refine w_is_numberG ?_
  refine k_andV (fun q => ?_) fun q => ?_
  · obtain ⟨i, rfl⟩ := num_of q
    walk_at "dl"
    exact k
  · have e : geB m d = false := by unfold geB; rw [q]; rfl
    rw [e] at k
    exact k
theorem w_is_figure (k : Q (.d (.bool (geB 0 d))) h) : W_is_figure [.d d] h Q E := by
  refine fnW_mk rfl ?_
  unfold t_is_figure
  show dRet _ _ [some (.d d)] h
  refine e_ret (w_geF ?_)
  walk_at "dl"
  rw [restr_self]
  exact k
theorem w_is_pace (k : Q (.d (.bool (geB 1 d))) h) : W_is_pace [.d d] h Q E := by
  refine fnW_mk rfl ?_
  unfold t_is_pace
  show dRet _ _ [some (.d d)] h
  refine e_ret (w_geF ?_)
  walk_at "dl"
  rw [restr_self]
  exact k
theorem w_is_columns (k : Q (.d (.bool (colB d))) h) : W_is_columns [.d d] h Q E := by
  refine fnW_mk rfl ?_
  unfold t_is_columns
  show dRet _ _ [some (.d d)] h
  walk_at "dl"
  refine w_is_pace ?_
  refine k_andV (fun q => ?_) fun q => ?_
  · have q' := q
    unfold geB at q'
    rw [Bool.and_eq_true] at q'
    obtain ⟨i, rfl⟩ := num_of q'.1
    walk_at "dl"
    rw [restr_self]
    have e : colB (.int i) = decide (i ≤ 3) := by unfold colB; rw [q]; rfl
    rw [e] at k
    exact k
  · have e : colB d = false := by unfold colB; rw [q]; rfl
    rw [e] at k
    walk_at "dl"
    rw [restr_self]
    exact k
theorem w_is_truth (k : Q (.d (.bool (isBoolB d))) h) : W_is_truth [.d d] h Q E := by
  refine fnW_mk rfl ?_
  unfold t_is_truth
  show dRet _ _ [some (.d d)] h
  walk_at "dl"
  rw [restr_self]
  exact k
theorem w_are_values (k : Q (.d (.bool (vlsB d))) h) : W_are_values [.d d] h Q E := by
  refine fnW_mk rfl ?_
  unfold t_are_values
  show dSeq _ _ _ [some (.d d), none] h
  have no : ∀ σ, vlsB d = false → (dRet (dC (.bool false))) (dEnd h Q) σ h := fun σ q => by
    rw [q] at k
    walk_at "dl"
    rw [restr_self]
    exact k
  walk_at "dl"
  refine k_or (fun q => ?_) fun q => ?_
  · refine k_if (fun _ => ?_) fun z => by cases z
    exact no _ (by unfold vlsB; have q' : isTupB d = false := by simpa using q
                   rw [q']; rfl)
  obtain ⟨xs, rfl⟩ := tup_of (d := d) (by simpa using q)
  have ev : vlsB (.tuple xs) = ((decide (1 ≤ xs.length) && decide (xs.length ≤ 3)) && xs.all numB) := rfl
  rw [ev] at k no
  walk_at "dl"
  refine e_chain ?_
  walk_at "dl"
  refine k_chain (fun q1 => ?_) fun q1 => ?_
  case' refine_2 =>
    walk_at "dl"
    refine k_if (fun _ => ?_) fun z => by cases z
    refine no _ ?_
    have : ¬ 1 ≤ xs.length := by have := of_decide_eq_false q1; omega
    rw [decide_eq_false this]
    rfl
  have h1 : 1 ≤ xs.length := by have := of_decide_eq_true q1; omega
  walk_at "dl"
  refine k_if (fun q2 => ?_) fun q2 => ?_
  · refine no _ ?_
    have : ¬ xs.length ≤ 3 := by simp at q2; omega
    rw [decide_eq_false this, Bool.and_false]
    rfl
  have h3 : xs.length ≤ 3 := by simp at q2; omega
  rw [decide_eq_true h1, decide_eq_true h3, Bool.and_true, Bool.true_and] at k
  walk_at "dl"
  refine ⟨by rw [sizeLine_eq]; omega, ?_⟩
  refine lc_pure (fun _ => true) (fun d => .bool (numB d)) (fun d _ => ⟨_, rfl, fun K hK => ?_, fun _ K hK => ?_⟩) ?_
  · walk_at "dl"
    exact hK
  · walk_at "dl"
    refine w_is_numberG ?_
    walk_at "dl"
    exact hK
  rw [List.filter_eq_self.mpr fun _ _ => rfl]
  walk_at "dl"
  refine b_allP ?_
  walk_at "dl"
  rw [restr_self]
  exact k
theorem w_isofL {f : Str} (hd : wlD d ≤ 1000000) (hf : f ∈ kindL) (k : Q (.d (.bool (formB f d))) h) : W_is_of [.d (.str f), .d d] h Q E := by
  refine fnA_mk rfl fun fa => ?_
  unfold t_is_of
  show dSeq _ _ _ [some (.d (.str f)), some (.d d), none] h
  unfold kindL at hf
  simp only [List.mem_cons, List.not_mem_nil, or_false] at hf
  rcases hf with rfl | rfl | rfl | rfl | rfl | rfl | rfl | rfl
  · walk_at "dl"
    refine r_tabF (f := "is_figure") rfl ?_
    walk_at "dl"
    refine e_callV (f := "is_figure") (W := W_is_figure) rfl rfl ?_
    walk_at "dl"
    refine w_is_figure ?_
    walk_at "dl"
    rw [restr_self]
    exact k
  · walk_at "dl"
    refine r_tabF (f := "is_figure") rfl ?_
    walk_at "dl"
    refine e_callV (f := "is_figure") (W := W_is_figure) rfl rfl ?_
    walk_at "dl"
    refine w_is_figure ?_
    walk_at "dl"
    rw [restr_self]
    exact k
  · walk_at "dl"
    refine r_tabF (f := "is_number") rfl ?_
    walk_at "dl"
    refine e_callV (f := "is_number") (W := W_is_number) rfl rfl ?_
    walk_at "dl"
    refine w_is_numberG ?_
    walk_at "dl"
    rw [restr_self]
    exact k
  · walk_at "dl"
    refine r_tabF (f := "is_pace") rfl ?_
    walk_at "dl"
    refine e_callV (f := "is_pace") (W := W_is_pace) rfl rfl ?_
    walk_at "dl"
    refine w_is_pace ?_
    walk_at "dl"
    rw [restr_self]
    exact k
  · walk_at "dl"
    refine r_tabF (f := "is_columns") rfl ?_
    walk_at "dl"
    refine e_callV (f := "is_columns") (W := W_is_columns) rfl rfl ?_
    walk_at "dl"
    refine w_is_columns ?_
    walk_at "dl"
    rw [restr_self]
    exact k
  · walk_at "dl"
    refine r_tabF (f := "are_values") rfl ?_
    walk_at "dl"
    refine e_callV (f := "are_values") (W := W_are_values) rfl rfl ?_
    walk_at "dl"
    refine w_are_values ?_
    walk_at "dl"
    rw [restr_self]
    exact k
  · walk_at "dl"
    refine r_tabF (f := "is_truth") rfl ?_
    walk_at "dl"
    refine e_callV (f := "is_truth") (W := W_is_truth) rfl rfl ?_
    walk_at "dl"
    refine w_is_truth ?_
    walk_at "dl"
    rw [restr_self]
    exact k
  · walk_at "dl"
    refine r_tabF (f := "is_word") rfl ?_
    walk_at "dl"
    refine e_callV (f := "is_word") (W := W_is_word) rfl rfl ?_
    walk_at "dl"
    refine w_is_wordL hd ?_
    walk_at "dl"
    rw [restr_self]
    exact k
end

/-! ### texts read: numbers -/
def digB (c : Nat) : Bool := decide (48 ≤ c) && decide (c ≤ 57)
def figsB (l : List Nat) : Bool := (decide (1 ≤ l.length) && decide (l.length ≤ 9)) && l.all digB
def leadB (l : List Nat) : Bool := decide (l = [48]) || !decide (l.head? = some 48)
def figL (l : List Nat) : Option Nat := if (figsB l && leadB l) = true then some (NumText.digitsVal l) else none
def optN : Option Nat → PyData
  | some n => .int n
  | none => .none
def numT (z : Str) : Option Int := match z.cps.toList with
  | 45 :: r => (match figL r with
    | some (n + 1) => some (-((n + 1 : Nat) : Int))
    | _ => none)
  | l => (figL l).map fun n => (n : Int)
def numD (z : Str) : PyData := match numT z with
  | some i => .int i
  | none => .none
theorem figures_is : ("0123456789" : Str).cps.toList = List.range' 48 10 := by decide +kernel
theorem in_dig (c : Nat) : decide (c ∈ ("0123456789" : Str).cps.toList) = digB c := by
  rw [figures_is]
  unfold digB
  rw [← Bool.decide_and]
  refine decide_eq_decide.mpr ?_
  rw [List.mem_range'_1]
  omega
theorem len_cps (z : Str) : z.cps.toList.length = z.length := Array.length_toList
theorem str_ext {x y : Str} (h : x.cps.toList = y.cps.toList) : x = y := Str.ext' (Array.toList_inj.mp h)
theorem str_beq {x y : Str} : (x == y) = decide (x.cps.toList = y.cps.toList) := by
  by_cases q : x = y
  · subst q
    rw [beq_self_eq_true, decide_eq_true rfl]
  · have n : ¬ x.cps.toList = y.cps.toList := fun z => q (str_ext z)
    rw [decide_eq_false n]
    exact beq_eq_false_iff_ne.mpr q
theorem zero_is : ("0" : Str).cps.toList = [48] := by decide +kernel
theorem minus_is : ("-" : Str).cps.toList = [45] := by decide +kernel
theorem st_minus (z : Str) : Txt.startswith z "-" = decide (z.cps.toList.head? = some 45) := by
  obtain ⟨a⟩ := z
  obtain ⟨l⟩ := a
  unfold Txt.startswith Builtin.Str.subAt
  have e1 : ("-" : Str).cps = #[45] := by decide +kernel
  have e2 : ("-" : Str).length = 1 := by decide +kernel
  rw [e1, e2]
  cases l with
  | nil => rfl
  | cons c r =>
    have e3 : (⟨⟨c :: r⟩⟩ : Str).cps.extract 0 (0 + 1) = #[c] := by
      show (c :: r).toArray.extract 0 1 = #[c]
      simp
    rw [e3]
    show (decide (0 + 1 ≤ (c :: r).length) && (#[c] == #[45])) = decide (some c = some 45)
    have e4 : decide (0 + 1 ≤ (c :: r).length) = true := decide_eq_true (by simp)
    rw [e4, Bool.true_and]
    by_cases q : c = 45
    · subst q; rfl
    · rw [decide_eq_false (fun z => q (Option.some.inj z))]
      refine beq_eq_false_iff_ne.mpr fun z => q ?_
      have := congrArg Array.toList z
      exact (List.cons.inj this).1
theorem cut1_tl (z : Str) : (cutS z (some 1) none).cps.toList = z.cps.toList.drop 1 := by
  show (z.cps.toList.drop (HT.sIx z.length 0 (some 1))).take (HT.sIx z.length z.length none - HT.sIx z.length 0 (some 1)) = z.cps.toList.drop 1
  rw [HT.sIx_none, show HT.sIx z.length 0 (some 1) = min 1 z.length from HT.sIx_nat _ _ 1]
  have hl := len_cps z
  have e : z.cps.toList.drop (min 1 z.length) = z.cps.toList.drop 1 := by
    by_cases q : 1 ≤ z.length
    · rw [Nat.min_eq_left q]
    · rw [Nat.min_eq_right (by omega), List.drop_of_length_le (by omega), List.drop_of_length_le (by omega)]
  rw [e]
  exact List.take_of_length_le (by rw [List.length_drop]; omega)
theorem digs_all {l : List Nat} (h : l.all digB = true) : NumText.AllDigits l := fun c hc => by
  have z := List.all_eq_true.mp h c hc
  unfold digB at z
  rw [Bool.and_eq_true] at z
  exact ⟨of_decide_eq_true z.1, of_decide_eq_true z.2⟩
theorem mul_parts {x y p : Str} {s : Nat} {S : List Nat} (ey : y.cps.toList = s :: S) (hk : y.cps.all (· < 256) = true) (h : p ∈ Txt.split x y) : p.length ≤ x.length := by
  have go : ∀ (l acc : List Nat) (k : Nat), ∀ q ∈ TL.spl (s :: S) k acc l, q.length ≤ acc.length + l.length := by
    intro l
    induction l with
    | nil =>
      intro acc k q hq
      rw [TL.spl_nil] at hq
      rw [List.mem_singleton.mp hq]
      omega
    | cons c r ih =>
      intro acc k q hq
      cases k with
      | succ k =>
        have z := ih acc k q hq
        rw [List.length_cons]
        omega
      | zero =>
        cases hp : TL.pre (s :: S) (c :: r) with
        | true =>
          rw [TL.spl_hit hp] at hq
          rcases List.mem_cons.mp hq with e | e
          · rw [e]; omega
          · have z := ih [] _ q e
            rw [List.length_cons]
            rw [List.length_nil] at z
            omega
        | false =>
          rw [TL.spl_miss hp] at hq
          have z := ih _ _ q hq
          rw [List.length_append, List.length_singleton] at z
          rw [List.length_cons]
          omega
  have e := TL.split_spl x y (by show y.cps.toList ≠ []; rw [ey]; simp) (TL.kind_ok hk)
  have m : p.cps.toList ∈ TL.spl (s :: S) 0 [] x.cps.toList := by
    have z : p.cps.toList ∈ (Txt.split x y).map TL.tl := List.mem_map_of_mem h
    rw [e] at z
    have z2 : p.cps.toList ∈ TL.spl y.cps.toList 0 [] x.cps.toList := z
    rwa [ey] at z2
  have z := go _ _ _ _ m
  rw [len_cps, len_cps] at z
  simpa using z
theorem comma_is : ("," : Str).cps.toList = [44] := by decide +kernel
theorem blank_is : (" " : Str).cps.toList = [32] := by decide +kernel
section
variable {h : MH} {Q : DK} {E : DXK}
theorem w_figures_in {z : Str} (hz : z.length ≤ 1000000) (k : Q (.d (optN (figL z.cps.toList))) h) : W_figures_in [.d (.str z)] h Q E := by
  have hl := len_cps z
  refine fnW_mk rfl ?_
  unfold t_figures_in
  show dSeq _ _ _ [some (.d (.str z)), none] h
  have no : ∀ σ, figsB z.cps.toList = false → (dRet (dC .none)) (dEnd h Q) σ h := fun σ q => by
    have e : figL z.cps.toList = none := by unfold figL; rw [q]; rfl
    rw [e] at k
    walk_at "dl"
    rw [restr_self]
    exact k
  walk_at "dl"
  refine e_chain ?_
  walk_at "dl"
  refine b_lenTx (by omega) ?_
  walk_at "dl"
  refine k_chain (fun q1 => ?_) fun q1 => ?_
  case' refine_2 =>
    walk_at "dl"
    refine k_or (fun _ => ?_) fun z => by cases z
    refine k_if (fun _ => ?_) fun z => by cases z
    refine no _ ?_
    have : ¬ 1 ≤ z.cps.toList.length := by have := of_decide_eq_false q1; omega
    unfold figsB
    rw [decide_eq_false this]
    rfl
  have h1 : 1 ≤ z.length := by have := of_decide_eq_true q1; omega
  walk_at "dl"
  refine k_or (fun q2 => ?_) fun q2 => ?_
  · refine k_if (fun _ => ?_) fun z => by cases z
    refine no _ ?_
    have : ¬ z.cps.toList.length ≤ 9 := by simp at q2; omega
    unfold figsB
    rw [decide_eq_false this, Bool.and_false]
    rfl
  have h9 : z.length ≤ 9 := by simp at q2; omega
  have ef : figsB z.cps.toList = z.cps.toList.all digB := by
    unfold figsB
    rw [decide_eq_true (by omega : 1 ≤ z.cps.toList.length), decide_eq_true (by omega : z.cps.toList.length ≤ 9)]
    rfl
  walk_at "dl"
  refine e_wTx2 ?_
  walk_at "dl"
  refine k_wTx ?_
  refine ⟨by rw [sizeLine_eq]; show (txD z).length ≤ _; unfold txD; rw [List.length_map, Array.length_toList]; show z.length ≤ _; omega, ?_⟩
  refine lc_enc (enc := fun c : Nat => PyData.str ⟨#[c]⟩) (out := fun c => .bool (digB c)) (l := z.cps.toList) (fun _ => true) (fun c _ => ⟨_, rfl, fun K hK => ?_, fun _ K hK => ?_⟩) ?_
  · walk_at "dl"
    exact hK
  · walk_at "dl"
    refine r_inTx ?_
    rw [in_dig]
    exact hK
  rw [List.filter_eq_self.mpr fun _ _ => rfl]
  walk_at "dl"
  refine b_allP ?_
  walk_at "dl"
  refine k_if (fun q3 => ?_) fun q3 => ?_
  · refine no _ ?_
    rw [ef]
    simpa using q3
  have hd : z.cps.toList.all digB = true := by simpa using q3
  walk_at "dl"
  obtain ⟨c0, r0, hc⟩ : ∃ c r, z.cps.toList = c :: r := by
    cases q : z.cps.toList with
    | nil => rw [q] at hl; simp at hl; omega
    | cons c r => exact ⟨c, r, rfl⟩
  have fin : leadB z.cps.toList = true → (dB rdIntTx (dCons (dVar 0) dNil)) [some (.d (.str z)), none] h fun r h' => (dEnd h Q).rt r h' := fun q4 => by
    have e : figL z.cps.toList = some (NumText.digitsVal z.cps.toList) := by unfold figL; rw [ef, hd, q4]; rfl
    rw [e] at k
    walk_at "dl"
    refine b_intTx (intText_digits (digs_all hd) (by rw [hc]; simp) (by omega)) (by omega) ?_
    walk_at "dl"
    rw [restr_self]
    exact k
  rw [str_beq, zero_is]
  refine k_or (fun q4 => ?_) fun q4 => ?_
  · refine k_ifE (fun _ => ?_) fun z => by cases z
    exact fin (by unfold leadB; rw [q4]; rfl)
  walk_at "dl"
  refine r_ixTx (n := 0) (c := c0) (by rw [hc]; unfold atI ixN; simp) (by omega) ?_
  walk_at "dl"
  rw [str_beq, zero_is]
  have e5 : decide ((⟨#[c0]⟩ : Str).cps.toList = [48]) = decide (z.cps.toList.head? = some 48) := by
    rw [hc]
    refine decide_eq_decide.mpr ?_
    show [c0] = [48] ↔ some c0 = some 48
    simp
  rw [e5]
  refine k_ifE (fun q5 => ?_) fun q5 => ?_
  · exact fin (by unfold leadB; rw [q5, Bool.or_true])
  · have e : figL z.cps.toList = none := by
      unfold figL leadB
      rw [q4, q5]
      simp
    rw [e] at k
    walk_at "dl"
    rw [restr_self]
    exact k
theorem w_number_in {z : Str} (hz : z.length ≤ 1000000) (k : Q (.d (numD z)) h) : W_number_in [.d (.str z)] h Q E := by
  refine fnW_mk rfl ?_
  unfold t_number_in
  show dSeq _ _ _ [some (.d (.str z)), none] h
  walk_at "dl"
  refine e_start ?_
  walk_at "dl"
  refine k_start1 ?_
  walk_at "dl"
  refine k_start ?_
  rw [st_minus]
  walk_at "dl"
  refine k_if (fun q => ?_) fun q => ?_
  · have q' : ¬ z.cps.toList.head? = some 45 := by simpa using q
    walk_at "dl"
    refine w_figures_in hz ?_
    walk_at "dl"
    rw [restr_self]
    have e : numD z = optN (figL z.cps.toList) := by
      have e2 : numT z = (figL z.cps.toList).map fun n => (n : Int) := by
        unfold numT
        split
        · rename_i r hr
          rw [hr] at q'
          exact absurd rfl q'
        · rfl
      unfold numD
      rw [e2]
      cases figL z.cps.toList <;> rfl
    rw [e] at k
    exact k
  have q' : z.cps.toList.head? = some 45 := by simpa using q
  obtain ⟨r, hr⟩ : ∃ r, z.cps.toList = 45 :: r := by
    cases e : z.cps.toList with
    | nil => rw [e] at q'; cases q'
    | cons c r =>
      rw [e] at q'
      exact ⟨r, by rw [show c = 45 from Option.some.inj q']⟩
  have e0 : numD z = (match figL r with
      | some (n + 1) => .int (-((n + 1 : Nat) : Int))
      | _ => .none) := by
    have e2 : numT z = (match figL r with
        | some (n + 1) => some (-((n + 1 : Nat) : Int))
        | _ => none) := by
      unfold numT
      rw [hr]
      rfl
    unfold numD
    rw [e2]
    cases figL r with
    | none => rfl
    | some n => cases n <;> rfl
  rw [e0] at k
  walk_at "dl"
  refine r_slTx (by omega) ?_
  walk_at "dl"
  refine w_figures_in (Nat.le_trans (cutS_length z _ _) hz) ?_
  rw [cut1_tl, hr, List.drop_succ_cons, List.drop_zero]
  cases hf : figL r with
  | none =>
    rw [hf] at k
    show asgK _ _ _ (.d .none) h
    walk_at "dl"
    refine k_or (fun _ => ?_) fun z => by cases z
    refine k_ifE (fun _ => ?_) fun z => by cases z
    walk_at "dl"
    rw [restr_self]
    exact k
  | some n =>
    rw [hf] at k
    show asgK _ _ _ (.d (.int n)) h
    walk_at "dl"
    refine k_or (fun z => by cases z) fun _ => ?_
    walk_at "dl"
    cases n with
    | zero =>
      refine k_ifE (fun _ => ?_) fun z => by cases z
      walk_at "dl"
      rw [restr_self]
      exact k
    | succ n =>
      refine k_ifE (fun z => ?_) fun _ => ?_
      · have := of_decide_eq_true z
        omega
      refine r_neg ?_
      walk_at "dl"
      show (dEnd h Q).rt (.d (.int (-((n + 1 : Nat) : Int)))) h
      walk_at "dl"
      rw [restr_self]
      exact k
end

/-! ### texts read: things, lines -/
def noneB : PyData → Bool
  | .none => true
  | _ => false
theorem eqv_none (d : PyData) : PyData.eqv d .none = noneB d := by cases d <;> simp [PyData.eqv, noneB]
theorem numD_dok {z : Str} : dOk 0 (numD z) = true := by unfold numD; split <;> rfl
def prtS (z : Str) : List Str := Txt.split z ","
def valsD (z : Str) : PyData := if ((prtS z).any fun p => noneB (numD p)) = true then .none else .tuple ((prtS z).map numD)
def truD (z : Str) : PyData := if z = "yes" then .bool true else if z = "no" then .bool false else .none
def rdgD (f z : Str) : PyData := if f = "values" then valsD z else if f = "truth" then truD z else if f = "name" then .str z else numD z
def thgD (f z : Str) : PyData := if (!noneB (rdgD f z) && formB f (rdgD f z)) = true then rdgD f z else .none
section
variable {h : MH} {Q : DK} {E : DXK} {σ : DSt} {to ti tx : DTE} {a : Addr} {ps : List (Key × SV)}
def g2E (x y z : SV) (Q : DK) : MH → Prop := fun h3 => match asDc h3 x, asKey y with
  | some p, some k => Q ((valS p.2 k).getD z) h3
  | _, _ => False
def g2K (ti tx : DTE) (σ : DSt) (Q : DK) : DK := fun x h1 => match asDc h1 x with
  | some _ => ti σ h1 fun y h2 => tx σ h2 fun z h3 => g2E x y z Q h3
  | none => False
theorem e_g2 (k : to σ h (g2K ti tx σ Q)) : dDGet2 to ti tx σ h Q := k
theorem dc_at' {h : MH} {a : Addr} {ps : List (Key × SV)} (e : h a = some (.dct ps)) : asDc h (.own a) = some (a, ps) := by unfold asDc; simp only [e]
theorem k_g2 (e : h a = some (.dct ps)) (k : ti σ h fun y h2 => tx σ h2 fun z h3 => g2E (.own a) y z Q h3) : g2K ti tx σ Q (.own a) h := by unfold g2K; rw [dc_at' e]; exact k
theorem k_g2E {y z : SV} {kk : Key} (e : h a = some (.dct ps)) (ek : asKey y = some kk) (k : Q ((valS ps kk).getD z) h) : g2E (.own a) y z Q h := by unfold g2E; rw [dc_at' e, ek]; exact k
theorem w_values_in {z : Str} (hz : z.length ≤ 1000000) (k : Q (.d (valsD z)) h) : W_values_in [.d (.str z)] h Q E := by
  refine fnW_mk rfl ?_
  unfold t_values_in
  show dSeq _ _ _ [some (.d (.str z)), none, none] h
  walk_at "dl"
  refine e_split ?_
  walk_at "dl"
  refine k_split1 ?_
  walk_at "dl"
  refine k_split (by decide +kernel) hz ?_
  walk_at "dl"
  have hl : (prtS z).length ≤ z.length + 2 := PyProof.Rows.split_le z ","
  refine ⟨by rw [sizeLine_eq, List.length_map]; show (prtS z).length ≤ _; omega, ?_⟩
  refine lc_enc (enc := PyData.str) (out := numD) (l := prtS z) (fun _ => true) (fun p hp => ⟨_, rfl, fun K hK => ?_, fun _ K hK => ?_⟩) ?_
  · walk_at "dl"
    exact hK
  · walk_at "dl"
    refine w_number_in (Nat.le_trans (mul_parts comma_is (by decide +kernel) hp) hz) ?_
    walk_at "dl"
    exact hK
  rw [List.filter_eq_self.mpr fun _ _ => rfl]
  walk_at "dl"
  refine r_inL rfl rfl rfl (shaped_ok (n := 1) (by decide) ?_) ?_
  · simp only [dOk]
    refine List.all_eq_true.mpr fun x hx => ?_
    obtain ⟨p, _, rfl⟩ := List.mem_map.mp hx
    exact numD_dok
  have ea : (((prtS z).map numD).any fun d => PyData.eqv d .none) = (prtS z).any fun p => noneB (numD p) := by
    rw [List.any_map]
    congr 1
    funext p
    exact eqv_none _
  rw [ea]
  walk_at "dl"
  unfold valsD at k
  refine k_ifE (fun q => ?_) fun q => ?_
  · rw [if_pos q] at k
    walk_at "dl"
    rw [restr_self]
    exact k
  · rw [if_neg (by rw [q]; exact Bool.false_ne_true)] at k
    walk_at "dl"
    rw [restr_self]
    exact k
theorem w_truth_in {z : Str} (k : Q (.d (truD z)) h) : W_truth_in [.d (.str z)] h Q E := by
  refine fnW_mk rfl ?_
  unfold t_truth_in
  show dRet _ _ [some (.d (.str z))] h
  refine e_ret (e_g2 (e_disp fun p hp => ?_))
  refine e_prC (e_c (e_c (e_prC (e_c (e_c (e_prN ?_))))))
  refine k_disp (rs := [(.inr "yes", .d (.bool true)), (.inr "no", .d (.bool false))]) rfl put_same rfl rfl ?_
  rw [put_put]
  refine k_g2 put_same ?_
  walk_at "dl"
  refine k_g2E put_same rfl ?_
  have e : (valS [((.inr "yes" : Key), SV.d (.bool true)), (.inr "no", .d (.bool false))] (.inr z)).getD (.d .none) = .d (truD z) := by
    unfold truD valS
    by_cases q1 : z = "yes"
    · subst q1; rfl
    · rw [if_neg q1]
      have n1 : decide ((.inr "yes" : Key) = .inr z) = false := decide_eq_false fun y => q1 (Sum.inr.inj y).symm
      by_cases q2 : z = "no"
      · subst q2; rfl
      · rw [if_neg q2]
        have n2 : decide ((.inr "no" : Key) = .inr z) = false := decide_eq_false fun y => q2 (Sum.inr.inj y).symm
        rw [List.find?_cons, n1, List.find?_cons, n2]
        rfl
  rw [e]
  walk_at "dl"
  rw [restr_drop hp, restr_self]
  exact k
theorem w_plain_in {z : Str} (k : Q (.d (.str z)) h) : W_plain_in [.d (.str z)] h Q E := by
  refine fnW_mk rfl ?_
  unfold t_plain_in
  show dRet _ _ [some (.d (.str z))] h
  walk_at "dl"
  rw [restr_self]
  exact k
theorem numD_wl {z : Str} : wlD (numD z) = 0 := by unfold numD; split <;> rfl
theorem rdgD_wl {f z : Str} : wlD (rdgD f z) ≤ z.length := by
  unfold rdgD valsD truD
  repeat' split
  all_goals first | exact Nat.zero_le _ | exact Nat.le_refl _ | (rw [numD_wl]; exact Nat.zero_le _)
theorem thing_end {z f : Str} {r : SV} (hz : z.length ≤ 1000000) (hf : f ∈ kindL) (k : Q (.d (thgD f z)) h) : andK (dTest (dCall noX W_is_of (dCons (dVar 0) (dCons (dVar 3) dNil)))) [some (.d (.str f)), some (.d (.str z)), some r, some (.d (rdgD f z))] (ifEK (dVar 3) (dC .none) [some (.d (.str f)), some (.d (.str z)), some r, some (.d (rdgD f z))] (dEnd h Q).rt) (!isNone (.d (rdgD f z))) h := by
  unfold thgD at k
  refine k_and (fun q => ?_) fun q => ?_
  · have q' : noneB (rdgD f z) = false := by
      cases e : rdgD f z <;> rw [e] at q <;> first | rfl | (cases q)
    walk_at "dl"
    refine w_isofL (Nat.le_trans rdgD_wl hz) hf ?_
    walk_at "dl"
    rw [q'] at k
    refine k_ifE (fun q2 => ?_) fun q2 => ?_
    · rw [q2] at k
      walk_at "dl"
      rw [restr_self]
      exact k
    · rw [q2] at k
      walk_at "dl"
      rw [restr_self]
      exact k
  · have q' : noneB (rdgD f z) = true := by
      cases e : rdgD f z <;> rw [e] at q <;> first | rfl | (cases q)
    rw [q'] at k
    refine k_ifE (fun z => by cases z) fun _ => ?_
    walk_at "dl"
    rw [restr_self]
    exact k
theorem w_thing_in {f z : Str} (hz : z.length ≤ 1000000) (hf : f ∈ kindL) (k : Q (.d (thgD f z)) h) : W_thing_in [.d (.str f), .d (.str z)] h Q E := by
  refine fnA_mk rfl fun fa => ?_
  unfold t_thing_in
  show dSeq _ _ _ [some (.d (.str f)), some (.d (.str z)), none, none] h
  have hf0 := hf
  unfold kindL at hf
  simp only [List.mem_cons, List.not_mem_nil, or_false] at hf
  have num : rdgD f z = numD z → dCallV noX fa ws_thing_in 2 (dCons (dVar 1) dNil) [some (.d (.str f)), some (.d (.str z)), some (.own (fa "number_in")), none] h (fun x h1 => asgK (.nm 3) { dEnd h Q with nx := (dRet (dIf (dAnd (dTest (dOp rdNotN (dVar 3) (dC .none))) (dTest (dCall noX W_is_of (dCons (dVar 0) (dCons (dVar 3) dNil))))) (dVar 3) (dC .none))) (dEnd h Q) } [some (.d (.str f)), some (.d (.str z)), some (.own (fa "number_in")), none] x h1) := fun er => by
    refine e_callV (f := "number_in") (W := W_number_in) rfl rfl ?_
    walk_at "dl"
    refine w_number_in hz ?_
    rw [← er]
    walk_at "dl"
    exact thing_end hz hf0 k
  walk_at "dl"
  refine e_tabGet (e_fn ⟨rfl, ?_⟩)
  walk_at "dl"
  rcases hf with rfl | rfl | rfl | rfl | rfl | rfl | rfl | rfl
  · refine k_tgN rfl ?_
    walk_at "dl"
    exact num rfl
  · refine k_tgN rfl ?_
    walk_at "dl"
    exact num rfl
  · refine k_tgN rfl ?_
    walk_at "dl"
    exact num rfl
  · refine k_tgN rfl ?_
    walk_at "dl"
    exact num rfl
  · refine k_tgN rfl ?_
    walk_at "dl"
    exact num rfl
  · refine k_tgF (f := "values_in") rfl ?_
    walk_at "dl"
    refine e_callV (f := "values_in") (W := W_values_in) rfl rfl ?_
    walk_at "dl"
    refine w_values_in hz ?_
    walk_at "dl"
    exact thing_end (f := "values") hz hf0 k
  · refine k_tgF (f := "truth_in") rfl ?_
    walk_at "dl"
    refine e_callV (f := "truth_in") (W := W_truth_in) rfl rfl ?_
    walk_at "dl"
    refine w_truth_in ?_
    walk_at "dl"
    exact thing_end (f := "truth") hz hf0 k
  · refine k_tgF (f := "plain_in") rfl ?_
    walk_at "dl"
    refine e_callV (f := "plain_in") (W := W_plain_in) rfl rfl ?_
    walk_at "dl"
    refine w_plain_in ?_
    walk_at "dl"
    exact thing_end (f := "name") hz hf0 k
end

/-! ### texts read: lines -/
theorem restrX_new {h : MH} {p : Addr} {o : MO} (hp : h p = none) : restrX h (mput h p o) = h := by
  funext b
  unfold restrX
  by_cases q : b = p
  · subst q
    rw [hp]
    rfl
  · rw [mput_ne q]
    cases z : h b <;> rfl
def thsE : List Str → List Str → Nat → Except Nat (List PyData)
  | [], [], _ => .ok []
  | [], _ :: _, k => .error k
  | _ :: _, [], k => .error k
  | f :: fs, w :: ws, k => if noneB (thgD f w) = true then .error k else (thsE fs ws (k + 1)).map (fun xs => thgD f w :: xs)
def FTx : List (Str × List Str) := [("begin", []), ("put", ["writer", "values"]), ("turn", ["writer", "number", "values"]), ("strike", ["writer", "number"]), ("done", ["writer"]), ("gone", ["writer"]), ("build", ["name", "figure", "truth"]), ("step", ["name", "pace"]), ("leave", ["name"]), ("drop", ["name"]), ("clean", []), ("crash", [])]
theorem FTx_in {w : Str} {fs : List Str} (h : FTx.lookup w = some fs) : (∀ f ∈ fs, f ∈ kindL) ∧ fs.length ≤ 3 := by
  have m : (w, fs) ∈ FTx := lookup_mem h
  have go : ∀ p ∈ FTx, (∀ f ∈ p.2, f ∈ kindL) ∧ p.2.length ≤ 3 := by decide +kernel
  exact go _ m
def lineL (can : Bool) : List Str → Except Nat PyData
  | [] => .error 0
  | w :: wt => if ((w == ("store" : Str)) && can) = true then (thsE ["columns"] wt 1).map (fun xs => .tuple (.str w :: xs)) else match FTx.lookup w with
    | none => .error 0
    | some fs => (thsE fs wt 1).map (fun xs => .tuple (.str w :: xs))
def lineE (can : Bool) (z : Str) : Except Nat PyData := lineL can (Txt.split z " ")
theorem cont_lookx {α : Type} {w : Str} : ∀ {l : List (Str × α)}, (l.map (·.1)).contains w = (l.lookup w).isSome
  | [] => rfl
  | (a, b) :: r => by
    rw [List.map_cons, List.contains_cons, List.lookup_cons]
    cases e : (w == a) with
    | true => rfl
    | false => exact cont_lookx (l := r)
theorem enum_at {ds : List PyData} {i : Nat} {d : PyData} {r : List PyData} (e : d :: r = (enumD ds).drop i) : ∃ x, ds[i]? = some x ∧ d = .tuple [.int (i : Nat), x] ∧ r = (enumD ds).drop (i + 1) := by
  have hl : i < (enumD ds).length := by
    by_cases q : i < (enumD ds).length
    · exact q
    · rw [List.drop_of_length_le (by omega)] at e
      cases e
  rw [List.drop_eq_getElem_cons hl] at e
  injection e with e1 e2
  have h2 : i < ds.length := by rw [enumD_len] at hl; exact hl
  have z := enumD_get (List.getElem?_eq_getElem h2)
  rw [List.getElem?_eq_getElem hl] at z
  exact ⟨ds[i], List.getElem?_eq_getElem h2, by rw [e1]; exact Option.some.inj z, e2⟩
theorem split_ne {x y : Str} (hy : y.cps.toList ≠ []) (hk : y.cps.all (· < 256) = true) : ∃ w wt, Txt.split x y = w :: wt := by
  have e := TL.split_spl x y hy (TL.kind_ok hk)
  cases q : Txt.split x y with
  | cons w wt => exact ⟨w, wt, rfl⟩
  | nil =>
    rw [q] at e
    have go : ∀ (S l acc : List Nat) (k : Nat), TL.spl S k acc l ≠ [] := by
      intro S l
      induction l with
      | nil => intro acc k z; rw [TL.spl_nil] at z; cases z
      | cons c r ih =>
        intro acc k z
        cases k with
        | succ k => exact ih acc k z
        | zero =>
          cases hp : TL.pre S (c :: r) with
          | true => rw [TL.spl_hit hp] at z; cases z
          | false => rw [TL.spl_miss hp] at z; exact ih _ _ z
    exact absurd e.symm (go _ _ _ _)
section
variable {h : MH} {Q : DK} {E : DXK}
theorem w_things_in {row : Int} {w0 : Str} {wt fs : List Str} (hw : ∀ w ∈ wt, w.length ≤ 1000000) (hf : ∀ f ∈ fs, f ∈ kindL) (lw : wt.length ≤ 1000000) (lf : fs.length ≤ 10)
    (k : ∀ xs, thsE fs wt 1 = .ok xs → Q (.d (.tuple xs)) h) (kx : ∀ n : Nat, thsE fs wt 1 = .error n → E ⟨"NoText", [("row", .int row), ("word", .int n)]⟩ h) :
    W_things_in [.d (.int row), .d (.list ((w0 :: wt).map PyData.str)), .d (.tuple (fs.map PyData.str))] h Q E := by
  refine fnW_mk rfl ?_
  unfold t_things_in
  show dSeq _ _ _ [some (.d (.int row)), some (.d (.list ((w0 :: wt).map PyData.str))), some (.d (.tuple (fs.map PyData.str))), none, none, none, none] h
  walk_at "dl"
  intro p hp
  have hne : ∀ {l : List PyData}, restrX h (mput h p (.lst l)) = h := fun {l} => restrX_new hp
  walk_at "dl"
  try simp only [List.set_cons_succ, List.set_cons_zero]
  refine for_inv (fun r σ h' => ∃ (i : Nat) (acc : List PyData) (x4 x5 x6 : Option SV), r = (enumD (fs.map PyData.str)).drop i ∧ i ≤ fs.length ∧ acc.length = i ∧ h' = mput h p (.lst acc) ∧ thsE fs wt 1 = (thsE (fs.drop i) (wt.drop i) (i + 1)).map (fun xs => acc ++ xs) ∧ i ≤ wt.length ∧
      σ = [some (.d (.int row)), some (.d (.list ((w0 :: wt).map PyData.str))), some (.d (.tuple (fs.map PyData.str))), some (.own p), x4, x5, x6]) ?_ ?_ _ _ _
    ⟨0, [], none, none, none, rfl, Nat.zero_le _, rfl, rfl, by rw [List.drop_zero, List.drop_zero]; cases thsE fs wt (0 + 1) <;> rfl, Nat.zero_le _, rfl⟩
  · rintro d r σ h1 KK ⟨i, acc, x4, x5, x6, er, hi, ha, rfl, eT, hiw, rfl⟩ hK
    obtain ⟨x, e1, rfl, rfl⟩ := enum_at er
    rw [List.getElem?_map] at e1
    obtain ⟨f, ef, rfl⟩ := Option.map_eq_some_iff.mp e1
    have hif : i < fs.length := (List.getElem?_eq_some_iff.mp ef).1
    have efd : fs.drop i = f :: fs.drop (i + 1) := by
      rw [List.drop_eq_getElem_cons hif]
      rw [List.getElem?_eq_getElem hif] at ef
      rw [Option.some.inj ef]
    have hfm : f ∈ fs := List.mem_of_getElem? ef
    refine ⟨_, bind2, ?_⟩
    try simp only [List.set_cons_succ, List.set_cons_zero]
    walk_at "dl"
    rw [List.length_map, List.length_cons]
    refine k_ifE (fun q => ?_) fun q => ?_
    · have q' : i < wt.length := by have := of_decide_eq_true q; omega
      have ew : ((w0 :: wt).map PyData.str)[i + 1]? = some (.str wt[i]) := by
        rw [List.map_cons, List.getElem?_cons_succ, List.getElem?_map, List.getElem?_eq_getElem q']
        rfl
      walk_at "dl"
      refine r_ixL (d := .str wt[i]) (at_nat ew) ?_
      walk_at "dl"
      refine w_thing_in (hw _ (List.getElem_mem q')) (hf f hfm) ?_
      walk_at "dl"
      have ewd : wt.drop i = wt[i] :: wt.drop (i + 1) := List.drop_eq_getElem_cons q'
      have eU : thsE (f :: fs.drop (i + 1)) (wt[i] :: wt.drop (i + 1)) (i + 1) = if noneB (thgD f wt[i]) = true then .error (i + 1) else (thsE (fs.drop (i + 1)) (wt.drop (i + 1)) (i + 1 + 1)).map (fun xs => thgD f wt[i] :: xs) := rfl
      rw [efd, ewd, eU] at eT
      refine k_if (fun q2 => ?_) fun q2 => ?_
      · have qn : noneB (thgD f wt[i]) = true := by
          cases e : thgD f wt[i] <;> rw [e] at q2 <;> first | rfl | (cases q2)
        rw [if_pos qn] at eT
        refine e_raise2 ?_
        walk_at "dl"
        refine k_raise2 ?_
        rw [hne]
        exact kx (i + 1) eT
      · have qn : noneB (thgD f wt[i]) = false := by
          cases e : thgD f wt[i] <;> rw [e] at q2 <;> first | rfl | (cases q2)
        rw [if_neg (by rw [qn]; exact Bool.false_ne_true)] at eT
        refine e_next ?_
        dsimp only
        walk_at "dl"
        refine m_append put_same (by omega) ?_
        rw [put_put]
        walk_at "dl"
        refine hK _ _ ⟨i + 1, acc ++ [thgD f wt[i]], _, _, _, rfl, hif, by simp [ha], rfl, ?_, q', rfl⟩
        rw [eT]
        cases thsE (fs.drop (i + 1)) (wt.drop (i + 1)) (i + 1 + 1) with
        | error n => rfl
        | ok xs =>
          show Except.ok (acc ++ thgD f wt[i] :: xs) = Except.ok (acc ++ [thgD f wt[i]] ++ xs)
          simp
    · have q' : i = wt.length := by have := of_decide_eq_false q; omega
      walk_at "dl"
      have ewd : wt.drop i = [] := List.drop_of_length_le (by omega)
      have eU : thsE (f :: fs.drop (i + 1)) [] (i + 1) = .error (i + 1) := rfl
      rw [efd, ewd, eU] at eT
      refine k_if (fun _ => ?_) fun z => by cases z
      refine e_raise2 ?_
      walk_at "dl"
      refine k_raise2 ?_
      rw [hne]
      exact kx (i + 1) eT
  · rintro σ h1 ⟨i, acc, x4, x5, x6, er, hi, ha, rfl, eT, hiw, rfl⟩
    have hi2 : i = fs.length := by
      have z := congrArg List.length er
      rw [List.length_drop, enumD_len, List.length_map, List.length_nil] at z
      omega
    have efd : fs.drop i = [] := List.drop_of_length_le (by omega)
    rw [efd] at eT
    walk_at "dl"
    rw [List.length_map, List.length_map, List.length_cons]
    refine k_if (fun q => ?_) fun q => ?_
    · have q' : fs.length < wt.length := by have := of_decide_eq_true q; omega
      have ewd : wt.drop i = wt[i] :: wt.drop (i + 1) := List.drop_eq_getElem_cons (by omega)
      have eU : thsE [] (wt[i] :: wt.drop (i + 1)) (i + 1) = .error (i + 1) := rfl
      rw [ewd, eU] at eT
      refine e_raise2 ?_
      walk_at "dl"
      refine k_raise2 ?_
      rw [hne]
      rw [hi2] at eT
      rw [List.length_map]
      exact kx (fs.length + 1) eT
    · have q' : wt.length ≤ fs.length := by have := of_decide_eq_false q; omega
      have ewd : wt.drop i = [] := List.drop_of_length_le (by omega)
      have eU : thsE [] [] (i + 1) = .ok [] := rfl
      rw [ewd, eU] at eT
      have eT2 : thsE fs wt 1 = .ok acc := by rw [eT]; show Except.ok (acc ++ []) = _; rw [List.append_nil]
      refine e_next ?_
      dsimp only
      walk_at "dl"
      refine b_tuple (asQ_own put_same) ?_
      walk_at "dl"
      rw [restr_drop hp, restr_self]
      exact k acc eT2
theorem w_line_in {row : Int} {z : Str} {can : Bool} (hz : z.length ≤ 900000) (k : ∀ x, lineE can z = .ok x → Q (.d x) h) (kx : ∀ n : Nat, lineE can z = .error n → E ⟨"NoText", [("row", .int row), ("word", .int n)]⟩ h) :
    W_line_in [.d (.int row), .d (.str z), .d (.bool can)] h Q E := by
  refine fnA_mk rfl fun fa => ?_
  unfold t_line_in
  show dSeq _ _ _ [some (.d (.int row)), some (.d (.str z)), some (.d (.bool can)), none] h
  obtain ⟨w, wt, hs⟩ := split_ne (x := z) (y := " ") (by rw [blank_is]; simp) (by decide +kernel)
  have hwl : ∀ v ∈ wt, v.length ≤ 1000000 := fun v hv => by
    have := mul_parts (x := z) blank_is (by decide +kernel) (p := v) (by rw [hs]; exact List.mem_cons_of_mem _ hv)
    omega
  have hlw : wt.length ≤ 1000000 := by
    have := PyProof.Rows.split_le z " "
    rw [hs, List.length_cons] at this
    omega
  have eE : lineE can z = lineL can (w :: wt) := by unfold lineE; rw [hs]
  have eL : lineL can (w :: wt) = (if ((w == ("store" : Str)) && can) = true then (thsE ["columns"] wt 1).map (fun xs => .tuple (.str w :: xs)) else match FTx.lookup w with
    | none => .error 0
    | some fs => (thsE fs wt 1).map (fun xs => .tuple (.str w :: xs))) := rfl
  rw [eE, eL] at k kx
  have rx : restrX h h = h := restrX_self
  walk_at "dl"
  refine e_split ?_
  walk_at "dl"
  refine k_split1 ?_
  walk_at "dl"
  refine k_split (by decide +kernel) (by omega) ?_
  rw [hs]
  have go : ∀ (fs : List Str), (∀ f ∈ fs, f ∈ kindL) → fs.length ≤ 3 → (∀ x, (thsE fs wt 1).map (fun xs => PyData.tuple (.str w :: xs)) = .ok x → Q (.d x) h) → (∀ n : Nat, (thsE fs wt 1).map (fun xs => PyData.tuple (.str w :: xs)) = .error n → E ⟨"NoText", [("row", .int row), ("word", .int n)]⟩ h) →
      W_things_in [.d (.int row), .d (.list ((w :: wt).map PyData.str)), .d (.tuple (fs.map PyData.str))] h (fun y h2 => rdAdd (.d (.tuple [.str w])) y h2 (dEnd h Q).rt) (fun x h2 => E x (restrX h h2)) := fun fs h1 h2 h3 h4 => by
    refine w_things_in hwl h1 hlw (by omega) (fun xs ex => ?_) fun n en => ?_
    · have hx : xs.length ≤ 10 := by
        have gl : ∀ (fs ws : List Str) (m : Nat) (ys : List PyData), thsE fs ws m = .ok ys → ys.length = fs.length := by
          intro fs
          induction fs with
          | nil =>
            intro ws m ys e
            cases ws with
            | nil => cases e; rfl
            | cons _ _ => cases e
          | cons f fs ih =>
            intro ws m ys e
            cases ws with
            | nil => cases e
            | cons v ws =>
              have eU : thsE (f :: fs) (v :: ws) m = if noneB (thgD f v) = true then .error m else (thsE fs ws (m + 1)).map (fun xs => thgD f v :: xs) := rfl
              rw [eU] at e
              split at e
              · cases e
              · cases e3 : thsE fs ws (m + 1) with
                | error _ => rw [e3] at e; cases e
                | ok zs =>
                  rw [e3] at e
                  cases e
                  rw [List.length_cons, List.length_cons, ih _ _ _ e3]
        rw [gl _ _ _ _ ex]
        omega
      refine r_addT (by simp; omega) ?_
      walk_at "dl"
      rw [restr_self]
      exact h3 _ (by rw [ex]; rfl)
    · rw [rx]
      exact h4 n (by rw [en]; rfl)
  have tail : (((w == ("store" : Str)) && can) = false) → (dSeq (dIfS (dTest (dOp (rdInTab fa "FORMS" true ["begin", "put", "turn", "strike", "done", "gone", "build", "step", "leave", "drop", "clean", "crash"]) (dOp rdIx (dVar 3) (dC (.int 0))) (dFn fa "FORMS"))) (dRaise2 (fun x _ h' => E x (restrX h h')) "NoText" "row" "word" (dCons (dVar 0) (dCons (dC (.int 0)) dNil))) dNext)
      (dRet (dOp rdAdd (dTup (dCons (dOp rdIx (dVar 3) (dC (.int 0))) dNil)) (dCall (fun x _ h' => E x (restrX h h')) W_things_in (dCons (dVar 0) (dCons (dVar 3) (dCons (dOp (rdTabD fa "FORMS" FTx) (dFn fa "FORMS") (dOp rdIx (dVar 3) (dC (.int 0)))) dNil))))))) (dEnd h Q) [some (.d (.int row)), some (.d (.str z)), some (.d (.bool can)), some (.d (.list ((w :: wt).map PyData.str)))] h := fun q => by
    rw [if_neg (by rw [q]; exact Bool.false_ne_true)] at k kx
    walk_at "dl"
    refine r_ixL (d := .str w) at0 ?_
    walk_at "dl"
    refine r_inTab (ks := FTx.map (·.1)) (b := (FTx.lookup w).isSome) cont_lookx ?_
    rw [Bool.true_xor]
    walk_at "dl"
    refine k_if (fun q2 => ?_) fun q2 => ?_
    · have e : FTx.lookup w = none := by
        cases y : FTx.lookup w with
        | none => rfl
        | some _ => rw [y] at q2; cases q2
      rw [e] at kx
      refine e_raise2 ?_
      walk_at "dl"
      refine k_raise2 ?_
      rw [rx]
      exact kx 0 rfl
    · obtain ⟨fs, hfs⟩ : ∃ fs, FTx.lookup w = some fs := by
        cases y : FTx.lookup w with
        | none => rw [y] at q2; cases q2
        | some fs => exact ⟨fs, rfl⟩
      rw [hfs] at k kx
      refine e_next ?_
      dsimp only
      walk_at "dl"
      refine r_ixL (d := .str w) at0 ?_
      walk_at "dl"
      refine r_ixL (d := .str w) at0 ?_
      refine r_tabD (tb := FTx) hfs ?_
      walk_at "dl"
      exact go fs (FTx_in hfs).1 (FTx_in hfs).2 k kx
  walk_at "dl"
  refine r_ixL (d := .str w) at0 ?_
  walk_at "dl"
  refine k_and (fun q => ?_) fun q => ?_
  · walk_at "dl"
    cases can with
    | true =>
      rw [if_pos (by rw [q]; rfl)] at k kx
      refine k_if (fun _ => ?_) fun z => by cases z
      walk_at "dl"
      refine r_ixL (d := .str w) at0 ?_
      walk_at "dl"
      exact go ["columns"] (by decide +kernel) (by decide) k kx
    | false =>
      refine k_if (fun z => by cases z) fun _ => ?_
      refine e_next ?_
      exact tail (by rw [q]; rfl)
  · refine k_if (fun z => by cases z) fun _ => ?_
    refine e_next ?_
    exact tail (by rw [q]; rfl)
end

/-! ### rows written -/
def itW (i : Int) : Str := Str.ofString (toString i)
def thW : PyData → Str
  | .bool b => if b = true then "yes" else "no"
  | .int i => itW i
  | .str z => z
  | .tuple xs => Txt.join "," (xs.map fun x => itW (numI x))
  | _ => ""
def ThB : PyData → Prop
  | .bool _ => True
  | .int i => i.natAbs ≤ 999999999
  | .str z => z.length ≤ 8
  | .tuple xs => xs.length ≤ 3 ∧ ∀ x ∈ xs, ∃ i : Int, x = .int i ∧ i.natAbs ≤ 999999999
  | _ => False
structure Rw where
  w : Str
  ps : List (Str × PyData)
def Rw.enc (r : Rw) : PyData := .tuple (.str r.w :: r.ps.map (·.2))
def Rw.words (r : Rw) : List Str := r.w :: r.ps.map fun p => thW p.2
def Rw.line (r : Rw) : Str := Txt.join " " r.words
def FTa : List (Str × List Str) := ("store", ["columns"]) :: FTx
structure RwOk (r : Rw) : Prop where
  form : FTa.lookup r.w = some (r.ps.map (·.1))
  things : ∀ p ∈ r.ps, formB p.1 p.2 = true ∧ ThB p.2
theorem FTa_in {w : Str} {fs : List Str} (h : FTa.lookup w = some fs) : (∀ f ∈ fs, f ∈ kindL) ∧ fs.length ≤ 3 ∧ 1 ≤ w.length ∧ w.length ≤ 6 ∧ (∀ c ∈ w.cps.toList, lowC c = true) := by
  have m : (w, fs) ∈ FTa := lookup_mem h
  have go : ∀ p ∈ FTa, (∀ f ∈ p.2, f ∈ kindL) ∧ p.2.length ≤ 3 ∧ 1 ≤ p.1.length ∧ p.1.length ≤ 6 ∧ (∀ c ∈ p.1.cps.toList, lowC c = true) := by decide +kernel
  exact go _ m
theorem itW_len {i : Int} (h : i.natAbs ≤ 999999999) : (itW i).length ≤ 10 := by
  unfold itW
  rw [PySem.ofString_length]
  exact int_text_length_le10 (k := 9) (by decide) (by omega)
theorem log_le {i : Int} (h : i.natAbs ≤ 999999999) : i.natAbs.log2 < 1920 := by
  by_cases q : i.natAbs = 0
  · rw [q]; decide
  · exact Nat.lt_trans ((Nat.log2_lt (k := 40) q).mpr (Nat.lt_of_le_of_lt h (by decide +kernel))) (by decide)
theorem sum_len {α : Type} {f : α → Nat} {k : Nat} : ∀ {l : List α}, (∀ x ∈ l, f x ≤ k) → (l.map f).sum ≤ k * l.length
  | [], _ => Nat.le_refl _
  | x :: l, h => by
    rw [List.map_cons, List.sum_cons, List.length_cons, Nat.mul_succ]
    have a := h x List.mem_cons_self
    have b := sum_len (l := l) fun y hy => h y (List.mem_cons_of_mem _ hy)
    omega
theorem joinL_len (a : List Nat) : ∀ ps : List (List Nat), (TL.joinL a ps).length ≤ (ps.map (·.length)).sum + ps.length * a.length
  | [] => Nat.zero_le _
  | [p] => by
    show p.length ≤ _
    simp
  | p :: q :: r => by
    show (p ++ (a ++ TL.joinL a (q :: r))).length ≤ _
    have z := joinL_len a (q :: r)
    rw [List.length_append, List.length_append, List.map_cons, List.sum_cons, List.length_cons, Nat.succ_mul]
    omega
theorem join_len (a : Str) (ys : List Str) : (Txt.join a ys).length ≤ (ys.map (·.length)).sum + ys.length * a.length := by
  have z := joinL_len (TL.tl a) (ys.map TL.tl)
  have e := TL.tl_join a ys
  have e2 : (TL.tl (Str.join a ys)).length = (Txt.join a ys).length := by rw [TL.join_eq]; exact len_cps _
  rw [← e, e2, List.map_map, List.length_map] at z
  have e3 : (TL.tl a).length = a.length := len_cps a
  have e4 : ys.map ((fun x => x.length) ∘ TL.tl) = ys.map (·.length) := List.map_congr_left fun y _ => len_cps y
  rw [e3, e4] at z
  exact z
theorem thW_len {d : PyData} (h : ThB d) : (thW d).length ≤ 40 := by
  cases d with
  | bool b => cases b <;> decide +kernel
  | int i => have : i.natAbs ≤ 999999999 := h; exact Nat.le_trans (itW_len this) (by decide)
  | str z => have : z.length ≤ 8 := h; exact Nat.le_trans this (by decide)
  | tuple xs =>
    obtain ⟨h1, h2⟩ : xs.length ≤ 3 ∧ ∀ x ∈ xs, ∃ i : Int, x = .int i ∧ i.natAbs ≤ 999999999 := h
    have j := join_len "," (xs.map fun x => itW (numI x))
    have s := sum_len (l := xs.map fun x => itW (numI x)) (f := fun y : Str => y.length) (k := 10) fun y hy => by
      obtain ⟨x, hx, rfl⟩ := List.mem_map.mp hy
      obtain ⟨i, rfl, hi⟩ := h2 x hx
      exact itW_len hi
    rw [List.length_map] at j s
    have c : (("," : Str)).length = 1 := by decide +kernel
    rw [c] at j
    show (Txt.join "," (xs.map fun x => itW (numI x))).length ≤ 40
    omega
  | _ => exact h.elim
theorem map_cons_invG {α : Type} {f : α → PyData} {d : PyData} {r : List PyData} {l : List α} (e : d :: r = l.map f) : ∃ x l', l = x :: l' ∧ d = f x ∧ r = l'.map f := by
  cases l with
  | nil => cases e
  | cons x l' => injection e with e1 e2; exact ⟨x, l', rfl, e1, e2⟩
section
variable {h : MH} {Q : DK} {E : DXK}
theorem k_join2O {p : Addr} {a : Str} {ys : List Str} (e : h p = some (.lst (ys.map PyData.str))) (l : (ys.map (·.length)).sum + ys.length * a.length ≤ 16777216) (k : Q (.d (.str (Txt.join a ys))) h) : joK2 a Q (.own p) h := by
  unfold joK2
  rw [asL_own e]
  exact ⟨ys, rfl, l, k⟩
theorem words_ok {ys : List Str} (h : ∀ y ∈ ys, y.length ≤ 40) (hl : ys.length ≤ 100) (a : Str) (ha : a.length = 1) : (ys.map (·.length)).sum + ys.length * a.length ≤ 16777216 := by
  have s := sum_len (f := fun y : Str => y.length) h
  rw [ha]
  omega
theorem form_truth {d : PyData} (h : formB "truth" d = true) : ∃ b, d = .bool b := by
  have e : formB "truth" d = isBoolB d := rfl
  rw [e] at h
  cases d <;> first | exact ⟨_, rfl⟩ | cases h
theorem form_values {d : PyData} (h : formB "values" d = true) : ∃ xs, d = .tuple xs := by
  have e : formB "values" d = vlsB d := rfl
  rw [e] at h
  cases d <;> first | exact ⟨_, rfl⟩ | cases h
end

/-! ### rows read back: the plain side -/
theorem comma_tl : TL.tl ("," : Str) = [44] := by decide +kernel
theorem blank_tl : TL.tl (" " : Str) = [32] := by decide +kernel
theorem itW_cps (i : Int) : (itW i).cps.toList = match i with
    | .ofNat n => TL.numL n
    | .negSucc m => 45 :: TL.numL (m + 1) := by
  cases i with
  | ofNat n => exact TL.tl_num n
  | negSucc m =>
    have e : itW (.negSucc m) = Str.ofString ("-" ++ toString ((m + 1 : Nat) : Int)) := rfl
    have z := TL.tl_num (m + 1)
    have z2 : (Str.ofString (toString ((m + 1 : Nat) : Int))).cps.toList = TL.numL (m + 1) := z
    rw [signs_ofString] at z2
    show (itW (.negSucc m)).cps.toList = 45 :: TL.numL (m + 1)
    rw [e, signs_ofString, String.toList_append, List.map_append, z2]
    rfl
theorem itW_signs {i : Int} : ∀ c ∈ (itW i).cps.toList, c = 45 ∨ (48 ≤ c ∧ c ≤ 57) := by
  intro c hc
  rw [itW_cps] at hc
  cases i with
  | ofNat n => exact .inr (TL.numL_digits n c hc)
  | negSucc m =>
    rcases List.mem_cons.mp hc with q | q
    · exact .inl q
    · exact .inr (TL.numL_digits (m + 1) c q)
theorem form_num {f : Str} {d : PyData} (hf : f ∈ kindL) (h1 : ¬ f = "truth") (h2 : ¬ f = "values") (h3 : ¬ f = "name") (h : formB f d = true) : ∃ i, d = .int i := by
  unfold kindL at hf
  simp only [List.mem_cons, List.not_mem_nil, or_false] at hf
  rcases hf with rfl | rfl | rfl | rfl | rfl | rfl | rfl | rfl
  all_goals first | exact absurd rfl h1 | exact absurd rfl h2 | exact absurd rfl h3 | (cases d <;> first | exact ⟨_, rfl⟩ | cases h)
theorem form_name {d : PyData} (h : formB "name" d = true) : ∃ z, d = .str z ∧ 1 ≤ z.length ∧ z.length ≤ 8 ∧ z.cps.toList.all lowC = true := by
  have e : formB "name" d = wordB d := rfl
  rw [e] at h
  cases d with
  | str z =>
    have ev : wordB (.str z) = ((decide (1 ≤ z.length) && decide (z.length ≤ 8)) && z.cps.toList.all lowC) := rfl
    rw [ev, Bool.and_eq_true, Bool.and_eq_true] at h
    exact ⟨z, rfl, of_decide_eq_true h.1.1, of_decide_eq_true h.1.2, h.2⟩
  | _ => cases h
theorem rw_parts {r : Rw} (h : RwOk r) : ∀ p ∈ r.ps, p.1 ∈ kindL ∧ formB p.1 p.2 = true ∧ ThB p.2 := fun p hp =>
  ⟨(FTa_in h.form).1 p.1 (List.mem_map_of_mem (f := (·.1)) hp), h.things p hp⟩
theorem joinL_mem {c : Nat} {a : List Nat} : ∀ {ps : List (List Nat)}, c ∈ TL.joinL a ps → c ∈ a ∨ ∃ p ∈ ps, c ∈ p
  | [], h => by cases h
  | [p], h => .inr ⟨p, List.mem_cons_self, h⟩
  | p :: q :: r, h => by
    have h' : c ∈ p ++ (a ++ TL.joinL a (q :: r)) := h
    rcases List.mem_append.mp h' with z | z
    · exact .inr ⟨p, List.mem_cons_self, z⟩
    · rcases List.mem_append.mp z with z | z
      · exact .inl z
      · rcases joinL_mem z with y | ⟨s, hs, y⟩
        · exact .inl y
        · exact .inr ⟨s, List.mem_cons_of_mem _ hs, y⟩
/-- the signs of a row's texts -/
def rowC (c : Nat) : Bool := lowC c || decide (c = 44) || decide (c = 45) || digB c
theorem thW_signs {f : Str} {d : PyData} (hf : f ∈ kindL) (h : formB f d = true) (t : ThB d) : ∀ c ∈ (thW d).cps.toList, rowC c = true := by
  have it : ∀ {i : Int}, ∀ c ∈ (itW i).cps.toList, rowC c = true := fun {i} c hc => by
    unfold rowC digB
    rcases itW_signs c hc with q | ⟨q1, q2⟩
    · rw [q]; rfl
    · rw [decide_eq_true q1, decide_eq_true q2]
      simp
  by_cases q1 : f = "values"
  · subst q1
    obtain ⟨xs, rfl⟩ := form_values h
    intro c hc
    have e : (thW (.tuple xs)).cps.toList = TL.joinL (TL.tl ",") ((xs.map fun x => itW (numI x)).map TL.tl) := by
      rw [← TL.tl_join, ← TL.join_eq]
      rfl
    rw [e] at hc
    rcases joinL_mem hc with q | ⟨p, hp, q⟩
    · rw [comma_tl] at q
      rw [List.mem_singleton.mp q]
      rfl
    · obtain ⟨y, hy, rfl⟩ := List.mem_map.mp hp
      obtain ⟨x, hx, rfl⟩ := List.mem_map.mp hy
      exact it c q
  by_cases q2 : f = "truth"
  · subst q2
    obtain ⟨b, rfl⟩ := form_truth h
    cases b <;> decide +kernel
  by_cases q3 : f = "name"
  · subst q3
    obtain ⟨z, rfl, _, _, hl⟩ := form_name h
    intro c hc
    have z := List.all_eq_true.mp hl c hc
    unfold rowC
    rw [z]
    rfl
  · obtain ⟨i, rfl⟩ := form_num hf q2 q1 q3 h
    exact it
theorem line_len {r : Rw} (h : RwOk r) : r.line.length ≤ 300 := by
  have a := join_len " " r.words
  obtain ⟨_, l3, _, w6, _⟩ := FTa_in h.form
  rw [List.length_map] at l3
  have s := sum_len (f := fun y : Str => y.length) (k := 40) (l := r.words) fun y hy => by
    rcases List.mem_cons.mp hy with rfl | q
    · omega
    · obtain ⟨p, hp, rfl⟩ := List.mem_map.mp q
      exact thW_len (h.things p hp).2
  have c : ((" " : Str)).length = 1 := by decide +kernel
  have l : r.words.length = r.ps.length + 1 := by unfold Rw.words; simp
  rw [c, l] at a
  rw [l] at s
  show (Txt.join " " r.words).length ≤ 300
  omega

/-! ### a log read -/
def lenT : PyData → Nat
  | .tuple xs => xs.length
  | _ => 0
def leadsB (fs ws : List Str) : Bool := (fs.zip ws).all fun p => !noneB (thgD p.1 p.2)
/-- the refusal of the columns of a line's values, at the place p -/
def askP (p : Nat) (fs : List Str) (wt : List Str) (c : Int) : Option Nat :=
  if (leadsB fs (wt.take (p - 1)) && (!noneB (if p ≤ wt.length then valsD (wt.getD (p - 1) "") else .none) && !decide ((lenT (if p ≤ wt.length then valsD (wt.getD (p - 1) "") else .none) : Int) = c))) = true then some p else none
def askE (ws : List Str) (c : Int) : Option Nat := match ws with
  | [] => none
  | w :: wt => if w = "put" then askP 2 ["writer", "values"] wt c else if w = "turn" then askP 3 ["writer", "number", "values"] wt c else none
def colsI : PyData → Int
  | .tuple [_, .int c] => c
  | _ => 0
def restE (c : Int) : List Str → Nat → Except (Nat × Nat) (List PyData)
  | [], _ => .ok []
  | l :: ls, i => match askE (Txt.split l " ") c with
    | some p => .error (i, p)
    | none => match lineE false l with
      | .error n => .error (i, n)
      | .ok d => (restE c ls (i + 1)).map fun ds => d :: ds
def logE : List Str → Except (Nat × Nat) (List PyData)
  | [] => .error (0, 0)
  | l :: ls => if (Txt.split l " ").head? = some ("store" : Str) then match lineE true l with
      | .error n => .error (0, n)
      | .ok d => (restE (colsI d) ls 1).map fun ds => d :: ds
    else .error (0, 0)
theorem zipD_strs {fs ws : List Str} : zipD (fs.map PyData.str) (ws.map PyData.str) = (fs.zip ws).map fun p => .tuple [.str p.1, .str p.2] := by
  unfold zipD
  induction fs generalizing ws with
  | nil => rfl
  | cons f fs ih =>
    cases ws with
    | nil => rfl
    | cons w ws => rw [List.map_cons, List.map_cons, List.zip_cons_cons, List.map_cons, ih]; rfl
theorem cut_mid {w : Str} {wt : List Str} {p : Nat} (hp : 1 ≤ p) : cutD ((w :: wt).map PyData.str) (some 1) (some (p : Nat)) = (wt.take (p - 1)).map PyData.str := by
  unfold cutD
  have e1 : HT.sIx ((w :: wt).map PyData.str).length 0 (some 1) = min 1 ((w :: wt).map PyData.str).length := HT.sIx_nat _ _ 1
  have e2 : HT.sIx ((w :: wt).map PyData.str).length ((w :: wt).map PyData.str).length (some (p : Nat)) = min p ((w :: wt).map PyData.str).length := HT.sIx_nat _ _ p
  rw [e1, e2, List.length_map, List.length_cons, Nat.min_eq_left (by omega : 1 ≤ wt.length + 1), List.map_cons, List.drop_succ_cons, List.drop_zero, List.map_take]
  refine List.take_eq_take_iff.mpr ?_
  rw [List.length_map]
  omega
theorem valsD_cases (z : Str) : valsD z = .none ∨ ∃ xs, valsD z = .tuple xs := by
  unfold valsD
  split
  · exact .inl rfl
  · exact .inr ⟨_, rfl⟩
def askR (fa : Str → Addr) (E : DXS) : DTS := (dSeq (dAsg (dIf (dTest (dOp rdGt (dB rdLen (dCons (dVar 1) dNil)) (dVar 3))) (dCall noX W_values_in (dCons (dOp rdIx (dVar 1) (dVar 3)) dNil)) (dC .none)) (.nm 4))
  (dSeq (dAsg (dOp (rdTabD fa "FORMS" FTx) (dFn fa "FORMS") (dOp rdIx (dVar 1) (dC (.int 0)))) (.nm 5))
  (dSeq (dAsg (dB rdAll (dCons (dL (fLc (wZipM (dVar 5) (dSl (dVar 1) (dPart (dC (.int 1))) (dPart (dVar 3)))) (.tup [7, 8]) dYes (dOp rdNotN (dCall noX W_thing_in (dCons (dVar 7) (dCons (dVar 8) dNil))) (dC .none)) [7, 8])) dNil)) (.nm 6))
  (dIfS (dAnd (dTest (dVar 6)) (dAnd (dTest (dOp rdNotN (dVar 4) (dC .none))) (dTest (dOp rdNe (dB rdLen (dCons (dVar 4) dNil)) (dVar 2))))) (dRaise2 E "NoText" "row" "word" (dCons (dVar 0) (dCons (dVar 3) dNil))) dNext))))
section
variable {h : MH} {Q : DK} {E : DXK}
theorem r_inF2 {x y : SV} {ds : List PyData} {e : PyData} (e1 : asD h x = some e) (e2 : asQ h y = some ds) (f1 : flatD e = true) (f2 : ds.all flatD = true) (k : Q (.d (.bool (ds.any fun z => PyData.eqv z e))) h) : rdInF x y h Q := by
  unfold rdInF
  rw [e1, e2]
  exact ⟨f1, f2, k⟩
theorem eqv_strs (a b : Str) : PyData.eqv (.str a) (.str b) = decide (a = b) := by
  by_cases q : a = b
  · subst q; simp [PyData.eqv]
  · rw [decide_eq_false q]; simp [PyData.eqv, q]
theorem ask_rest {fa : Str → Addr} {i : Int} {w : Str} {wt fs : List Str} {c : Int} {p : Nat} (hw : ∀ v ∈ wt, v.length ≤ 1000000) (hl : wt.length ≤ 1000000) (hp : 2 ≤ p ∧ p ≤ 3) (hf : FTx.lookup w = some fs)
    (k : askP p fs wt c = none → Q (.d .none) h) (kx : ∀ n, askP p fs wt c = some n → E ⟨"NoText", [("row", .int i), ("word", .int (n : Nat))]⟩ h) :
    askR fa (fun x _ h' => E x (restrX h h')) (dEnd h Q) [some (.d (.int i)), some (.d (.list ((w :: wt).map PyData.str))), some (.d (.int c)), some (.d (.int (p : Nat))), none, none, none, none, none] h := by
  have rx : restrX h h = h := restrX_self
  obtain ⟨fd, hfd⟩ : ∃ fd, fd = (if p ≤ wt.length then valsD (wt.getD (p - 1) "") else .none) := ⟨_, rfl⟩
  have ea : askP p fs wt c = if (leadsB fs (wt.take (p - 1)) && (!noneB fd && !decide ((lenT fd : Int) = c))) = true then some p else none := by
    unfold askP
    rw [← hfd]
  rw [ea] at k kx
  have hcase : fd = .none ∨ ∃ xs, fd = .tuple xs := by
    rw [hfd]
    split
    · exact valsD_cases _
    · exact .inl rfl
  have tail : (dSeq (dAsg (dOp (rdTabD fa "FORMS" FTx) (dFn fa "FORMS") (dOp rdIx (dVar 1) (dC (.int 0)))) (.nm 5))
      (dSeq (dAsg (dB rdAll (dCons (dL (fLc (wZipM (dVar 5) (dSl (dVar 1) (dPart (dC (.int 1))) (dPart (dVar 3)))) (.tup [7, 8]) dYes (dOp rdNotN (dCall noX W_thing_in (dCons (dVar 7) (dCons (dVar 8) dNil))) (dC .none)) [7, 8])) dNil)) (.nm 6))
      (dIfS (dAnd (dTest (dVar 6)) (dAnd (dTest (dOp rdNotN (dVar 4) (dC .none))) (dTest (dOp rdNe (dB rdLen (dCons (dVar 4) dNil)) (dVar 2))))) (dRaise2 (fun x _ h' => E x (restrX h h')) "NoText" "row" "word" (dCons (dVar 0) (dCons (dVar 3) dNil))) dNext))) (dEnd h Q)
      [some (.d (.int i)), some (.d (.list ((w :: wt).map PyData.str))), some (.d (.int c)), some (.d (.int (p : Nat))), some (.d fd), none, none, none, none] h := by
    walk_at "dl"
    refine r_ixL (d := .str w) at0 ?_
    refine r_tabD (tb := FTx) hf ?_
    walk_at "dl"
    refine e_zipM ?_
    walk_at "dl"
    rw [cut_mid (by omega)]
    refine k_zipM ?_
    rw [zipD_strs]
    have hz : (fs.zip (wt.take (p - 1))).length ≤ 100 := by
      rw [List.length_zip, List.length_take]
      omega
    refine ⟨by rw [sizeLine_eq, List.length_map]; omega, ?_⟩
    refine lc_enc (enc := fun q : Str × Str => PyData.tuple [.str q.1, .str q.2]) (out := fun q => .bool (!noneB (thgD q.1 q.2))) (l := fs.zip (wt.take (p - 1))) (fun _ => true) (fun q hq => ⟨_, bind2, fun K hK => ?_, fun _ K hK => ?_⟩) ?_
    · walk_at "dl"
      exact hK
    · try simp only [List.set_cons_succ, List.set_cons_zero]
      have m1 : q.1 ∈ fs := (List.of_mem_zip hq).1
      have m2 : q.2 ∈ wt := List.mem_of_mem_take (List.of_mem_zip hq).2
      walk_at "dl"
      refine w_thing_in (hw _ m2) ((FTx_in hf).1 _ m1) ?_
      walk_at "dl"
      have e : (!isNone (.d (thgD q.1 q.2))) = !noneB (thgD q.1 q.2) := by cases thgD q.1 q.2 <;> rfl
      rw [e]
      exact hK
    rw [List.filter_eq_self.mpr fun _ _ => rfl]
    walk_at "dl"
    refine b_allP ?_
    walk_at "dl"
    have el : (fs.zip (wt.take (p - 1))).all (fun q => !noneB (thgD q.1 q.2)) = leadsB fs (wt.take (p - 1)) := rfl
    rw [el]
    refine k_and (fun q1 => ?_) fun q1 => ?_
    case' refine_2 =>
      rw [show leadsB fs (wt.take (p - 1)) = false from q1] at k
      refine k_if (fun z => by cases z) fun _ => ?_
      walk_at "dl"
      rw [restr_self]; exact k rfl
    rw [show leadsB fs (wt.take (p - 1)) = true from q1] at k kx
    walk_at "dl"
    rcases hcase with e0 | ⟨xs, e0⟩
    · rw [e0] at k ⊢
      refine k_and (fun z => by cases z) fun _ => ?_
      refine k_if (fun z => by cases z) fun _ => ?_
      walk_at "dl"
      rw [restr_self]; exact k rfl
    · rw [e0] at k kx ⊢
      refine k_and (fun _ => ?_) fun z => by cases z
      walk_at "dl"
      refine k_if (fun q2 => ?_) fun q2 => ?_
      · have q3 : (!decide (((xs.length : Nat) : Int) = c)) = true := q2
        refine e_raise2 ?_
        walk_at "dl"
        refine k_raise2 ?_
        rw [rx]
        exact kx p (if_pos (by show (true && (!false && !decide (((xs.length : Nat) : Int) = c))) = true; rw [q3]; rfl))
      · have q3 : (!decide (((xs.length : Nat) : Int) = c)) = false := q2
        walk_at "dl"
        rw [restr_self]; exact k (if_neg (by show ¬ (true && (!false && !decide (((xs.length : Nat) : Int) = c))) = true; rw [q3]; exact Bool.false_ne_true))
  unfold askR
  walk_at "dl"
  rw [List.length_map, List.length_cons]
  refine k_ifE (fun q => ?_) fun q => ?_
  · have q' : p ≤ wt.length := by have := of_decide_eq_true q; omega
    have hlt : p - 1 < wt.length := by omega
    have eg : wt.getD (p - 1) "" = wt[p - 1] := by rw [List.getD_eq_getElem?_getD, List.getElem?_eq_getElem hlt]; rfl
    have ew : ((w :: wt).map PyData.str)[p]? = some (.str (wt.getD (p - 1) "")) := by
      obtain ⟨p', rfl⟩ : ∃ p', p = p' + 1 := ⟨p - 1, by omega⟩
      have hlt' : p' < wt.length := hlt
      rw [eg, List.map_cons, List.getElem?_cons_succ, List.getElem?_map, List.getElem?_eq_getElem hlt']
      rfl
    walk_at "dl"
    refine r_ixL (d := .str (wt.getD (p - 1) "")) (at_nat ew) ?_
    walk_at "dl"
    refine w_values_in (by rw [eg]; exact hw _ (List.getElem_mem hlt)) ?_
    rw [if_pos q'] at hfd
    rw [← hfd]
    exact tail
  · have q' : ¬ p ≤ wt.length := by have := of_decide_eq_false q; omega
    rw [if_neg q'] at hfd
    rw [hfd] at tail
    refine e_c ?_
    exact tail
theorem w_ask {i : Int} {ws : List Str} {c : Int} (h0 : ws ≠ []) (hw : ∀ v ∈ ws, v.length ≤ 1000000) (hl : ws.length ≤ 1000000)
    (k : askE ws c = none → Q (.d .none) h) (kx : ∀ n : Nat, askE ws c = some n → E ⟨"NoText", [("row", .int i), ("word", .int n)]⟩ h) :
    W_ask_columns [.d (.int i), .d (.list (ws.map PyData.str)), .d (.int c)] h Q E := by
  obtain ⟨w, wt, rfl⟩ : ∃ w wt, ws = w :: wt := by
    cases ws with
    | nil => exact absurd rfl h0
    | cons w wt => exact ⟨w, wt, rfl⟩
  have hw' : ∀ v ∈ wt, v.length ≤ 1000000 := fun v hv => hw v (List.mem_cons_of_mem _ hv)
  have hl' : wt.length ≤ 1000000 := by rw [List.length_cons] at hl; omega
  refine fnA_mk rfl fun fa => ?_
  unfold t_ask_columns
  show dIfS _ (dSeq _ (askR fa _)) _ _ [some (.d (.int i)), some (.d (.list ((w :: wt).map PyData.str))), some (.d (.int c)), none, none, none, none, none, none] h
  have eE : askE (w :: wt) c = if w = "put" then askP 2 ["writer", "values"] wt c else if w = "turn" then askP 3 ["writer", "number", "values"] wt c else none := rfl
  rw [eE] at k kx
  walk_at "dl"
  refine r_ixL (d := .str w) at0 ?_
  walk_at "dl"
  refine r_inF2 rfl rfl rfl rfl ?_
  have e1 : ([PyData.str "put", .str "turn"].any fun z => PyData.eqv z (.str w)) = (decide (w = "put") || decide (w = "turn")) := by
    rw [List.any_cons, List.any_cons, List.any_nil, Bool.or_false, eqv_strs, eqv_strs]
    congr 1
    · exact decide_eq_decide.mpr eq_comm
    · exact decide_eq_decide.mpr eq_comm
  rw [e1]
  by_cases q1 : w = "put"
  · rw [if_pos q1] at k kx
    refine k_if (fun _ => ?_) fun z => by rw [decide_eq_true q1] at z; cases z
    walk_at "dl"
    refine r_ixL (d := .str w) at0 ?_
    walk_at "dl"
    refine k_ifE (fun _ => ?_) fun z => absurd q1 (by simpa using z)
    refine e_c (k_nm ?_)
    exact ask_rest (p := 2) hw' hl' ⟨by decide, by decide⟩ (by rw [q1]; rfl) k kx
  rw [if_neg q1] at k kx
  by_cases q2 : w = "turn"
  · rw [if_pos q2] at k kx
    refine k_if (fun _ => ?_) fun z => by rw [decide_eq_true q2, Bool.or_true] at z; cases z
    walk_at "dl"
    refine r_ixL (d := .str w) at0 ?_
    walk_at "dl"
    refine k_ifE (fun z => absurd (by simpa using z) q1) fun _ => ?_
    refine e_c (k_nm ?_)
    exact ask_rest (p := 3) hw' hl' ⟨by decide, by decide⟩ (by rw [q2]; rfl) k kx
  · rw [if_neg q2] at k
    refine k_if (fun z => by rw [decide_eq_false q1, decide_eq_false q2] at z; cases z) fun _ => ?_
    walk_at "dl"
    rw [restr_self]; exact k rfl
theorem w_read_row {z : Str} (hz : z.length ≤ 900000) (k : ∀ x, lineE true z = .ok x → Q (.d x) h) (kx : ∀ n : Nat, lineE true z = .error n → E ⟨"NoText", [("row", .int 0), ("word", .int n)]⟩ h) : W_read_row [.d (.str z)] h Q E := by
  refine fnW_mk rfl ?_
  unfold t_read_row
  show dRet _ _ [some (.d (.str z))] h
  walk_at "dl"
  refine w_line_in hz (fun x e => ?_) fun n e => ?_
  · walk_at "dl"
    rw [restr_self]
    exact k x e
  · rw [restrX_self]
    exact kx n e
theorem ths_one {wt : List Str} {xs : List PyData} (e : thsE ["columns"] wt 1 = .ok xs) : ∃ c : Int, xs = [.int c] ∧ 1 ≤ c ∧ c ≤ 3 := by
  cases wt with
  | nil => cases e
  | cons w wt =>
    have eU : thsE ["columns"] (w :: wt) 1 = if noneB (thgD "columns" w) = true then .error 1 else (thsE [] wt 2).map (fun xs => thgD "columns" w :: xs) := rfl
    rw [eU] at e
    split at e
    · cases e
    rename_i hn
    cases wt with
    | cons _ _ => cases e
    | nil =>
      have e' : (Except.ok [thgD "columns" w] : Except Nat (List PyData)) = .ok xs := e
      injection e' with e'
      have ed : thgD "columns" w = if (!noneB (rdgD "columns" w) && formB "columns" (rdgD "columns" w)) = true then rdgD "columns" w else .none := rfl
      by_cases q : (!noneB (rdgD "columns" w) && formB "columns" (rdgD "columns" w)) = true
      · rw [if_pos q] at ed
        rw [Bool.and_eq_true] at q
        have f : colB (rdgD "columns" w) = true := q.2
        unfold colB geB at f
        rw [Bool.and_eq_true, Bool.and_eq_true] at f
        obtain ⟨c, hc⟩ := num_of f.1.1
        have f1 := of_decide_eq_true f.1.2
        have f2 := of_decide_eq_true f.2
        rw [hc] at f1 f2
        exact ⟨c, by rw [← e', ed, hc], f1, f2⟩
      · rw [if_neg q] at ed
        rw [ed] at hn
        exact absurd rfl hn
theorem line_store {l : Str} {d : PyData} (h0 : (Txt.split l " ").head? = some ("store" : Str)) (e : lineE true l = .ok d) : d = .tuple [.str "store", .int (colsI d)] ∧ 1 ≤ colsI d ∧ colsI d ≤ 3 := by
  unfold lineE at e
  cases hs : Txt.split l " " with
  | nil => rw [hs] at h0; cases h0
  | cons w wt =>
    rw [hs] at h0 e
    have hw : w = "store" := Option.some.inj h0
    subst hw
    have eL : lineL true ("store" :: wt) = (thsE ["columns"] wt 1).map (fun xs => .tuple (.str "store" :: xs)) := rfl
    rw [eL] at e
    cases q : thsE ["columns"] wt 1 with
    | error n => rw [q] at e; cases e
    | ok xs =>
      rw [q] at e
      obtain ⟨c, rfl, c1, c2⟩ := ths_one q
      have e' : (Except.ok (.tuple [.str "store", .int c]) : Except Nat PyData) = .ok d := e
      injection e' with e'
      subst e'
      exact ⟨rfl, c1, c2⟩
theorem w_read_log {ls : List Str} (hz : ∀ z ∈ ls, z.length ≤ 900000) (hl : ls.length ≤ 100000) (k : ∀ ds, logE ls = .ok ds → Q (.d (.tuple ds)) h)
    (kx : ∀ p : Nat × Nat, logE ls = .error p → E ⟨"NoText", [("row", .int (p.1 : Nat)), ("word", .int (p.2 : Nat))]⟩ h) : W_read_log [.d (.list (ls.map PyData.str))] h Q E := by
  refine fnW_mk rfl ?_
  unfold t_read_log
  show dSeq _ _ _ [some (.d (.list (ls.map PyData.str))), none, none, none, none] h
  walk_at "dl"
  rw [List.length_map]
  cases ls with
  | nil =>
    refine k_if (fun _ => ?_) fun z => by cases z
    refine e_raise2 ?_
    walk_at "dl"
    refine k_raise2 ?_
    rw [restrX_self]
    exact kx (0, 0) rfl
  | cons l0 lr =>
  refine k_if (fun z => by have := of_decide_eq_true z; rw [List.length_cons] at this; omega) fun _ => ?_
  obtain ⟨ls, els⟩ : ∃ ls, ls = l0 :: lr := ⟨_, rfl⟩
  rw [← els] at hz hl k kx ⊢
  refine e_next ?_
  dsimp only
  walk_at "dl"
  intro p hp
  have hne : ∀ {l : List PyData}, restrX h (mput h p (.lst l)) = h := fun {l} => restrX_new hp
  walk_at "dl"
  try simp only [List.set_cons_succ, List.set_cons_zero]
  refine for_inv (fun r σ h' => ∃ (i : Nat) (acc : List PyData) (x2 x3 x4 : Option SV), r = (enumD (ls.map PyData.str)).drop i ∧ i ≤ ls.length ∧ acc.length = i ∧ h' = mput h p (.lst acc) ∧
      ((i = 0 ∧ acc = []) ∨ (1 ≤ i ∧ ∃ c r0, acc = .tuple [.str "store", .int c] :: r0 ∧ logE ls = (restE c (ls.drop i) i).map fun ds => acc ++ ds)) ∧
      σ = [some (.d (.list (ls.map PyData.str))), some (.own p), x2, x3, x4]) ?_ ?_ _ _ _
    ⟨0, [], none, none, none, rfl, Nat.zero_le _, rfl, rfl, .inl ⟨rfl, rfl⟩, rfl⟩
  · rintro d r σ h1 KK ⟨i, acc, x2, x3, x4, er, hi, ha, rfl, hcase, rfl⟩ hK
    obtain ⟨x, e1, rfl, rfl⟩ := enum_at er
    rw [List.getElem?_map] at e1
    obtain ⟨l, ef, rfl⟩ := Option.map_eq_some_iff.mp e1
    have hil : i < ls.length := (List.getElem?_eq_some_iff.mp ef).1
    have eld : ls.drop i = l :: ls.drop (i + 1) := by
      rw [List.drop_eq_getElem_cons hil]
      rw [List.getElem?_eq_getElem hil] at ef
      rw [Option.some.inj ef]
    have hlm : l ∈ ls := List.mem_of_getElem? ef
    have hlz := hz l hlm
    obtain ⟨w, wt, hs⟩ := split_ne (x := l) (y := " ") (by rw [blank_is]; simp) (by decide +kernel)
    have hwl : ∀ v ∈ w :: wt, v.length ≤ 1000000 := fun v hv => by
      have := mul_parts (x := l) blank_is (by decide +kernel) (p := v) (by rw [hs]; exact hv)
      omega
    have hlw : (w :: wt).length ≤ 1000000 := by
      have := PyProof.Rows.split_le l " "
      rw [hs] at this
      omega
    refine ⟨_, bind2, ?_⟩
    try simp only [List.set_cons_succ, List.set_cons_zero]
    walk_at "dl"
    refine e_split ?_
    walk_at "dl"
    refine k_split1 ?_
    walk_at "dl"
    refine k_split (by decide +kernel) (by omega) ?_
    rw [hs]
    walk_at "dl"
    rcases hcase with ⟨rfl, rfl⟩ | ⟨hi1, c, r0, ec, eT⟩
    · have el : l = l0 := by
        rw [els] at ef
        exact (Option.some.inj ef).symm
      have eL : logE ls = if (Txt.split l " ").head? = some ("store" : Str) then match lineE true l with
          | .error n => .error (0, n)
          | .ok d => (restE (colsI d) lr 1).map fun ds => d :: ds
        else .error (0, 0) := by rw [els, el]; rfl
      rw [hs] at eL
      refine k_and (fun _ => ?_) fun z => by cases z
      walk_at "dl"
      refine r_ixL (d := .str w) at0 ?_
      walk_at "dl"
      by_cases q : w = "store"
      case' neg =>
        have nq : ¬ (w :: wt).head? = some ("store" : Str) := fun z => q (Option.some.inj z)
        rw [if_neg nq] at eL
        refine k_if (fun _ => ?_) fun z => absurd (by simpa using z) q
        refine e_raise2 ?_
        walk_at "dl"
        refine k_raise2 ?_
        rw [hne]
        exact kx (0, 0) eL
      rw [if_pos (by rw [q]; rfl)] at eL
      refine k_if (fun z => absurd q (by simpa using z)) fun _ => ?_
      refine e_next ?_
      dsimp only
      walk_at "dl"
      refine k_if (fun z => by cases z) fun _ => ?_
      refine e_next ?_
      dsimp only
      walk_at "dl"
      refine w_line_in hlz (fun d ed => ?_) fun n en => ?_
      · rw [show lineE true l = .ok d from ed] at eL
        obtain ⟨e3, _⟩ := line_store (by rw [hs, q]; rfl) ed
        walk_at "dl"
        refine m_append put_same (by decide) ?_
        rw [put_put]
        walk_at "dl"
        refine hK _ _ ⟨1, [d], _, _, _, rfl, hil, rfl, rfl, .inr ⟨Nat.le_refl _, colsI d, [], by rw [← e3], ?_⟩, rfl⟩
        rw [eL]
        have e4 : ls.drop 1 = lr := by rw [els]; rfl
        rw [e4]
        rfl
      · rw [show lineE true l = .error n from en] at eL
        rw [hne]
        exact kx (0, n) eL
    · have i0 : ((i : Nat) : Int) ≠ 0 := by omega
      have i1 : decide (((i : Nat) : Int) = 0) = false := decide_eq_false i0
      have i2 : decide (((i : Nat) : Int) > 0) = true := decide_eq_true (by omega)
      rw [i1]
      refine k_and (fun z => by cases z) fun _ => ?_
      refine k_if (fun z => by cases z) fun _ => ?_
      refine e_next ?_
      dsimp only
      walk_at "dl"
      refine k_if (fun _ => ?_) fun z => by have := of_decide_eq_false z; omega
      walk_at "dl"
      refine r_ixO put_same (by rw [ec]; exact at0) ?_
      walk_at "dl"
      have eR : restE c (l :: ls.drop (i + 1)) i = match askE (Txt.split l " ") c with
          | some p => .error (i, p)
          | none => match lineE false l with
            | .error n => .error (i, n)
            | .ok d => (restE c (ls.drop (i + 1)) (i + 1)).map fun ds => d :: ds := rfl
      rw [eld, eR, hs] at eT
      refine w_ask (by simp) hwl hlw (fun ea => ?_) fun n ea => ?_
      case' refine_2 =>
        rw [ea] at eT
        rw [hne]
        exact kx (i, n) eT
      rw [ea] at eT
      walk_at "dl"
      rw [i1]
      refine w_line_in hlz (fun d ed => ?_) fun n en => ?_
      · rw [ed] at eT
        walk_at "dl"
        refine m_append put_same (by omega) ?_
        rw [put_put]
        walk_at "dl"
        refine hK _ _ ⟨i + 1, acc ++ [d], _, _, _, rfl, hil, by simp [ha], rfl, .inr ⟨by omega, c, r0 ++ [d], by rw [ec]; rfl, ?_⟩, rfl⟩
        rw [eT]
        cases restE c (ls.drop (i + 1)) (i + 1) with
        | error n => rfl
        | ok xs =>
          show Except.ok (acc ++ d :: xs) = Except.ok (acc ++ [d] ++ xs)
          simp
      · rw [en] at eT
        rw [hne]
        exact kx (i, n) eT
  · rintro σ h1 ⟨i, acc, x2, x3, x4, er, hi, ha, rfl, hcase, rfl⟩
    have hi2 : i = ls.length := by
      have z := congrArg List.length er
      rw [List.length_drop, enumD_len, List.length_map, List.length_nil] at z
      omega
    have edr : ls.drop i = [] := List.drop_of_length_le (by omega)
    have hpos : 1 ≤ i := by rw [hi2, els, List.length_cons]; omega
    rcases hcase with ⟨q, _⟩ | ⟨_, c, r0, ec, eT⟩
    · omega
    rw [edr] at eT
    walk_at "dl"
    refine b_tuple (asQ_own put_same) ?_
    walk_at "dl"
    rw [restr_drop hp, restr_self]
    refine k acc ?_
    rw [eT]
    show Except.ok (acc ++ []) = _
    rw [List.append_nil]
end

/-! ### deeds by draws (the store laws) -/
inductive Dd where
  | begin
  | put (x : Int) (vs : List Int)
  | turn (x r : Int) (vs : List Int)
  | strike (x r : Int)
  | done (x : Int)
  | gone (x : Int)
  | build (n : Str) (c : Int) (u : Bool)
  | step (n : Str) (p : Int)
  | leave (n : Str)
  | drop (n : Str)
  | clean
  | crash
def Dd.enc : Dd → PyData
  | .begin => .tuple [.str "begin"]
  | .put x vs => .tuple [.str "put", .int x, .tuple (vs.map PyData.int)]
  | .turn x r vs => .tuple [.str "turn", .int x, .int r, .tuple (vs.map PyData.int)]
  | .strike x r => .tuple [.str "strike", .int x, .int r]
  | .done x => .tuple [.str "done", .int x]
  | .gone x => .tuple [.str "gone", .int x]
  | .build n c u => .tuple [.str "build", .str n, .int c, .bool u]
  | .step n p => .tuple [.str "step", .str n, .int p]
  | .leave n => .tuple [.str "leave", .str n]
  | .drop n => .tuple [.str "drop", .str n]
  | .clean => .tuple [.str "clean"]
  | .crash => .tuple [.str "crash"]
def nmL : List Str := ["a", "b", "zz"]
def ValOk (w : Int) (vs : List Int) : Prop := (vs.length : Int) = w ∧ ∀ v ∈ vs, -1 ≤ v ∧ v ≤ 2
def DdOk (w : Int) : Dd → Prop
  | .put x vs => (0 ≤ x ∧ x ≤ 20) ∧ ValOk w vs
  | .turn x r vs => (0 ≤ x ∧ x ≤ 20) ∧ (0 ≤ r ∧ r ≤ 5) ∧ ValOk w vs
  | .strike x r => (0 ≤ x ∧ x ≤ 20) ∧ (0 ≤ r ∧ r ≤ 5)
  | .done x => 0 ≤ x ∧ x ≤ 20
  | .gone x => 0 ≤ x ∧ x ≤ 20
  | .build n c _ => n ∈ nmL ∧ 0 ≤ c ∧ c < w
  | .step n p => n ∈ nmL ∧ (p = 1 ∨ p = 4 ∨ p = 40)
  | .leave n => n ∈ nmL
  | .drop n => n ∈ nmL
  | _ => True
section
variable {h : MH} {Q : DK} {E : DXK} {sc : List Int} {a b : Addr} {o : MO} {C : Int}
theorem w_valuesS {w : Int} (ha : h a = some o) (F : Fd sc C o) (hs : sc.length ≤ 63) (hC : C + 10 ≤ 10 ^ 12) (hw : 1 ≤ w ∧ w ≤ 3)
    (k : ∀ (vs : List Int) o', (vs.length : Int) = w → (∀ v ∈ vs, -1 ≤ v ∧ v ≤ 2) → Fd sc (C + 3) o' → Q (.d (.tuple (vs.map PyData.int))) (mput h a o')) : W__law_values [.own a, .d (.int w)] h Q E := by
  have hsome := fd_some ha
  refine fnW_mk rfl ?_
  unfold t__law_values
  show dRet _ _ [some (.own a), some (.d (.int w)), none] h
  walk_at "dl"
  refine k_wRg1 ⟨by omega, by omega⟩ ?_
  rw [rg0]
  refine ⟨by rw [sizeLine_eq, List.length_map, rgI_len]; omega, ?_⟩
  refine lc_inv (fun rs acc h' => ∃ (l1 l2 vs : List Int) (o' : MO), rgI w = l1 ++ l2 ∧ rs = l2.map PyData.int ∧ acc = vs.map PyData.int ∧ vs.length = l1.length ∧ (∀ x ∈ vs, -1 ≤ x ∧ x ≤ 2) ∧ h' = mput h a o' ∧ Fd sc (C + l1.length) o') ?_ ?_ _ [] _
    ⟨[], rgI w, [], o, rfl, rfl, rfl, rfl, (fun x hx => by cases hx), (put_id ha).symm, F.up (by simp)⟩
  · rintro d r acc h1 KK ⟨l1, l2, vs, o1, el, er, rfl, hl, hv, rfl, F1⟩ hK
    obtain ⟨x, l3, rfl, rfl, rfl⟩ := map_cons_inv er
    have ll : l1.length + 1 ≤ 3 := by
      have := congrArg List.length el
      rw [rgI_len, List.length_append, List.length_cons] at this
      omega
    refine ⟨_, rfl, ?_⟩
    refine e_yes (k_lc (fun _ => ?_) fun q => by cases q)
    walk_at "dl"
    refine w_drawS put_same F1 hs (by omega) ⟨by decide, by decide⟩ fun u o2 u0 u1 F2 => ?_
    rw [put_put]
    walk_at "dl"
    refine k_lcE ?_
    refine hK _ _ ⟨l1 ++ [x], l3, vs ++ [u - 1], o2, by rw [el]; simp, rfl, by rw [List.map_append]; rfl, by rw [List.length_append, List.length_append, hl]; rfl, fun z hz => ?_, rfl, F2.up (by rw [List.length_append, List.length_singleton]; omega)⟩
    rcases List.mem_append.mp hz with q | q
    · exact hv z q
    · rw [List.mem_singleton.mp q]; omega
  · rintro acc h1 ⟨l1, l2, vs, o1, el, er, rfl, hl, hv, rfl, F1⟩
    have e2 : l2 = [] := List.map_eq_nil_iff.mp er.symm
    subst e2
    rw [List.append_nil] at el
    subst el
    rw [rgI_len] at hl
    walk_at "dl"
    rw [restr_putd hsome, restr_self]
    exact k vs o1 (by omega) hv (F1.up (by rw [rgI_len]; omega))
end
def deedR : DTS := (dSeq (dPar 5 6 (dCons (dOp rdIx (dL (fLst (dCons (dC (.str "a")) (dCons (dC (.str "b")) (dCons (dC (.str "zz")) dNil))))) (dCall noX W__law_draw (dCons (dVar 0) (dCons (dC (.int 3)) dNil)))) (dCons (dCall noX W__law_draw (dCons (dVar 0) (dCons (dC (.int 6)) dNil))) dNil)))
  (dSeq (dIfS (dAnd (dTest (dOp rdLt (dVar 4) (dC (.int 5)))) (dTest (dOp rdLt (dOp rdIx (dVar 2) (dC (.int 0))) (dC (.int 18))))) (dSeq (dSetIx (dOp rdAdd (dOp rdIx (dVar 2) (dC (.int 0))) (dC (.int 1))) (dVar 2) (dC (.int 0)))
  (dRet (dTup (dCons (dC (.str "begin")) dNil)))) dNext)
  (dSeq (dIfS (dTest (dOp rdLt (dVar 4) (dC (.int 13)))) (dRet (dTup (dCons (dC (.str "put")) (dCons (dVar 3) (dCons (dCall noX W__law_values (dCons (dVar 0) (dCons (dVar 1) dNil))) dNil))))) dNext)
  (dSeq (dIfS (dTest (dOp rdLt (dVar 4) (dC (.int 19)))) (dRet (dTup (dCons (dC (.str "turn")) (dCons (dVar 3) (dCons (dVar 6) (dCons (dCall noX W__law_values (dCons (dVar 0) (dCons (dVar 1) dNil))) dNil)))))) dNext)
  (dSeq (dIfS (dTest (dOp rdLt (dVar 4) (dC (.int 21)))) (dRet (dTup (dCons (dC (.str "strike")) (dCons (dVar 3) (dCons (dVar 6) dNil))))) dNext)
  (dSeq (dIfS (dTest (dOp rdLt (dVar 4) (dC (.int 27)))) (dRet (dTup (dCons (dOp rdIx (dL (fLst (dCons (dC (.str "done")) (dCons (dC (.str "done")) (dCons (dC (.str "gone")) dNil))))) (dOp rdMod (dVar 4) (dC (.int 3)))) (dCons (dVar 3) dNil)))) dNext)
  (dSeq (dIfS (dTest (dOp rdLt (dVar 4) (dC (.int 29)))) (dRet (dTup (dCons (dC (.str "build")) (dCons (dVar 5) (dCons (dCall noX W__law_draw (dCons (dVar 0) (dCons (dVar 1) dNil))) (dCons (dOp rdEq (dCall noX W__law_draw (dCons (dVar 0) (dCons (dC (.int 2)) dNil))) (dC (.int 0))) dNil)))))) dNext)
  (dSeq (dIfS (dTest (dOp rdLt (dVar 4) (dC (.int 36)))) (dRet (dTup (dCons (dC (.str "step")) (dCons (dVar 5) (dCons (dOp rdIx (dL (fLst (dCons (dC (.int 1)) (dCons (dC (.int 4)) (dCons (dC (.int 40)) dNil))))) (dCall noX W__law_draw (dCons (dVar 0) (dCons (dC (.int 3)) dNil)))) dNil))))) dNext)
  (dSeq (dIfS (dTest (dOp rdEq (dVar 4) (dC (.int 36)))) (dRet (dOp rdIx (dL (fLst (dCons (dTup (dCons (dC (.str "leave")) (dCons (dVar 5) dNil))) (dCons (dTup (dCons (dC (.str "drop")) (dCons (dVar 5) dNil))) (dCons (dTup (dCons (dC (.str "drop")) (dCons (dVar 5) dNil))) dNil))))) (dCall noX W__law_draw (dCons (dVar 0) (dCons (dC (.int 3)) dNil))))) dNext)
  (dRet (dIf (dOr (dTest (dOp rdLt (dVar 4) (dC (.int 39)))) (dTest (dOp rdGt (dCall noX W__law_draw (dCons (dVar 0) (dCons (dC (.int 4)) dNil))) (dC (.int 0))))) (dTup (dCons (dC (.str "clean")) dNil)) (dTup (dCons (dC (.str "crash")) dNil)))))))))))))
section
variable {h : MH} {Q : DK} {E : DXK} {sc : List Int} {a b : Addr} {o : MO} {C : Int}
def deedT : DTS := (dSeq (dIfS (dTest (dOp rdLt (dVar 4) (dC (.int 13)))) (dRet (dTup (dCons (dC (.str "put")) (dCons (dVar 3) (dCons (dCall noX W__law_values (dCons (dVar 0) (dCons (dVar 1) dNil))) dNil))))) dNext)
  (dSeq (dIfS (dTest (dOp rdLt (dVar 4) (dC (.int 19)))) (dRet (dTup (dCons (dC (.str "turn")) (dCons (dVar 3) (dCons (dVar 6) (dCons (dCall noX W__law_values (dCons (dVar 0) (dCons (dVar 1) dNil))) dNil)))))) dNext)
  (dSeq (dIfS (dTest (dOp rdLt (dVar 4) (dC (.int 21)))) (dRet (dTup (dCons (dC (.str "strike")) (dCons (dVar 3) (dCons (dVar 6) dNil))))) dNext)
  (dSeq (dIfS (dTest (dOp rdLt (dVar 4) (dC (.int 27)))) (dRet (dTup (dCons (dOp rdIx (dL (fLst (dCons (dC (.str "done")) (dCons (dC (.str "done")) (dCons (dC (.str "gone")) dNil))))) (dOp rdMod (dVar 4) (dC (.int 3)))) (dCons (dVar 3) dNil)))) dNext)
  (dSeq (dIfS (dTest (dOp rdLt (dVar 4) (dC (.int 29)))) (dRet (dTup (dCons (dC (.str "build")) (dCons (dVar 5) (dCons (dCall noX W__law_draw (dCons (dVar 0) (dCons (dVar 1) dNil))) (dCons (dOp rdEq (dCall noX W__law_draw (dCons (dVar 0) (dCons (dC (.int 2)) dNil))) (dC (.int 0))) dNil)))))) dNext)
  (dSeq (dIfS (dTest (dOp rdLt (dVar 4) (dC (.int 36)))) (dRet (dTup (dCons (dC (.str "step")) (dCons (dVar 5) (dCons (dOp rdIx (dL (fLst (dCons (dC (.int 1)) (dCons (dC (.int 4)) (dCons (dC (.int 40)) dNil))))) (dCall noX W__law_draw (dCons (dVar 0) (dCons (dC (.int 3)) dNil)))) dNil))))) dNext)
  (dSeq (dIfS (dTest (dOp rdEq (dVar 4) (dC (.int 36)))) (dRet (dOp rdIx (dL (fLst (dCons (dTup (dCons (dC (.str "leave")) (dCons (dVar 5) dNil))) (dCons (dTup (dCons (dC (.str "drop")) (dCons (dVar 5) dNil))) (dCons (dTup (dCons (dC (.str "drop")) (dCons (dVar 5) dNil))) dNil))))) (dCall noX W__law_draw (dCons (dVar 0) (dCons (dC (.int 3)) dNil))))) dNext)
  (dRet (dIf (dOr (dTest (dOp rdLt (dVar 4) (dC (.int 39)))) (dTest (dOp rdGt (dCall noX W__law_draw (dCons (dVar 0) (dCons (dC (.int 4)) dNil))) (dC (.int 0))))) (dTup (dCons (dC (.str "clean")) dNil)) (dTup (dCons (dC (.str "crash")) dNil)))))))))))
theorem deed_tail {x y w v : Int} {nm : Str} {vb : SV} (hs : sc.length ≤ 63) (hx : 0 ≤ x ∧ x ≤ 20) (hy : 0 ≤ y ∧ y < 40) (hv : 0 ≤ v ∧ v < 6) (hn : nm ∈ nmL) (ha : (h a).isSome = true) (hw : 1 ≤ w ∧ w ≤ 3) (F : Fd sc C o) (hC : C + 20 ≤ 10 ^ 12)
    (fin : ∀ (d : Dd) o', DdOk w d → Fd sc (C + 4) o' → Q (.d d.enc) (restr h (mput h a o') (.d d.enc))) : deedT (dEnd h Q) [some (.own a), some (.d (.int w)), some vb, some (.d (.int x)), some (.d (.int y)), some (.d (.str nm)), some (.d (.int v))] (mput h a o) := by
  unfold deedT
  show dSeq _ _ _ [some (.own a), some (.d (.int w)), some vb, some (.d (.int x)), some (.d (.int y)), some (.d (.str nm)), some (.d (.int v))] (mput h a o)
  walk_at "dl"
  refine k_if (fun q => ?_) fun q => ?_
  · walk_at "dl"
    refine w_valuesS put_same F hs (by omega) hw fun vs o1 vl vr F1 => ?_
    rw [put_put]
    walk_at "dl"
    exact fin (.put x vs) _ ⟨hx, vl, vr⟩ (F1.up (by omega))
  refine e_next ?_
  dsimp only
  walk_at "dl"
  refine k_if (fun q => ?_) fun q => ?_
  · walk_at "dl"
    refine w_valuesS put_same F hs (by omega) hw fun vs o1 vl vr F1 => ?_
    rw [put_put]
    walk_at "dl"
    exact fin (.turn x v vs) _ ⟨hx, by omega, vl, vr⟩ (F1.up (by omega))
  refine e_next ?_
  dsimp only
  walk_at "dl"
  refine k_if (fun q => ?_) fun q => ?_
  · walk_at "dl"
    exact fin (.strike x v) _ ⟨hx, by omega⟩ (F.up (by omega))
  refine e_next ?_
  dsimp only
  walk_at "dl"
  refine k_if (fun q => ?_) fun q => ?_
  · walk_at "dl"
    obtain ⟨m1, m2⟩ := fmod_in (i := y) (m := 3) (by decide)
    have three : y.fmod 3 = 0 ∨ y.fmod 3 = 1 ∨ y.fmod 3 = 2 := by omega
    rcases three with z | z | z
    · rw [z]
      refine r_ixL (d := .str "done") rfl ?_
      walk_at "dl"
      exact fin (.done x) _ hx (F.up (by omega))
    · rw [z]
      refine r_ixL (d := .str "done") rfl ?_
      walk_at "dl"
      exact fin (.done x) _ hx (F.up (by omega))
    · rw [z]
      refine r_ixL (d := .str "gone") rfl ?_
      walk_at "dl"
      exact fin (.gone x) _ hx (F.up (by omega))
  refine e_next ?_
  dsimp only
  walk_at "dl"
  refine k_if (fun q => ?_) fun q => ?_
  · walk_at "dl"
    refine w_drawS put_same F hs (by omega) ⟨by omega, by omega⟩ fun u o1 u0 u1 F1 => ?_
    rw [put_put]
    walk_at "dl"
    refine w_drawS put_same F1 hs (by omega) ⟨by decide, by decide⟩ fun u' o2 u0' u1' F2 => ?_
    rw [put_put]
    walk_at "dl"
    exact fin (.build nm u (decide (u' = 0))) _ ⟨hn, u0, u1⟩ (F2.up (by omega))
  refine e_next ?_
  dsimp only
  walk_at "dl"
  refine k_if (fun q => ?_) fun q => ?_
  · walk_at "dl"
    refine w_drawS put_same F hs (by omega) ⟨by omega, by omega⟩ fun u o1 u0 u1 F1 => ?_
    rw [put_put]
    obtain ⟨z, z1, z2⟩ : ∃ z : Int, atI [PyData.int 1, .int 4, .int 40] u = some (.int z) ∧ (z = 1 ∨ z = 4 ∨ z = 40) := by
      have : u = 0 ∨ u = 1 ∨ u = 2 := by omega
      rcases this with z | z | z <;> rw [z]
      · exact ⟨1, rfl, by decide⟩
      · exact ⟨4, rfl, by decide⟩
      · exact ⟨40, rfl, by decide⟩
    refine r_ixL z1 ?_
    walk_at "dl"
    exact fin (.step nm z) _ ⟨hn, z2⟩ (F1.up (by omega))
  refine e_next ?_
  dsimp only
  walk_at "dl"
  refine k_if (fun q => ?_) fun q => ?_
  · walk_at "dl"
    refine w_drawS put_same F hs (by omega) ⟨by omega, by omega⟩ fun u o1 u0 u1 F1 => ?_
    rw [put_put]
    have three : u = 0 ∨ u = 1 ∨ u = 2 := by omega
    rcases three with z | z | z
    · rw [z]
      refine r_ixL (d := .tuple [.str "leave", .str nm]) rfl ?_
      walk_at "dl"
      exact fin (.leave nm) _ hn (F1.up (by omega))
    · rw [z]
      refine r_ixL (d := .tuple [.str "drop", .str nm]) rfl ?_
      walk_at "dl"
      exact fin (.drop nm) _ hn (F1.up (by omega))
    · rw [z]
      refine r_ixL (d := .tuple [.str "drop", .str nm]) rfl ?_
      walk_at "dl"
      exact fin (.drop nm) _ hn (F1.up (by omega))
  refine e_next ?_
  dsimp only
  walk_at "dl"
  refine k_or (fun q => ?_) fun q => ?_
  · refine k_ifE (fun _ => ?_) fun z => by cases z
    walk_at "dl"
    exact fin .clean _ trivial (F.up (by omega))
  walk_at "dl"
  refine w_drawS put_same F hs (by omega) ⟨by omega, by omega⟩ fun u o1 u0 u1 F1 => ?_
  rw [put_put]
  walk_at "dl"
  refine k_ifE (fun _ => ?_) fun _ => ?_
  · walk_at "dl"
    exact fin .clean _ trivial (F1.up (by omega))
  · walk_at "dl"
    exact fin .crash _ trivial (F1.up (by omega))
theorem deed_rest {x y w g : Int} {x5 x6 : Option SV} (hs : sc.length ≤ 63) (hx : 0 ≤ x ∧ x ≤ 20) (hy : 0 ≤ y ∧ y < 40) (hg : 3 ≤ g ∧ g ≤ 18) (ha : (h a).isSome = true) (hb : h b = some (.lst [.int g])) (ne : a ≠ b) (hw : 1 ≤ w ∧ w ≤ 3) (F : Fd sc C o) (hC : C + 24 ≤ 10 ^ 12)
    (k : ∀ (d : Dd) o' g', DdOk w d → Fd sc (C + 8) o' → 3 ≤ g' ∧ g' ≤ 18 → Q (.d d.enc) (mput (mput h a o') b (.lst [.int g']))) : deedR (dEnd h Q) [some (.own a), some (.d (.int w)), some (.own b), some (.d (.int x)), some (.d (.int y)), x5, x6] (mput h a o) := by
  have hbs : (h b).isSome = true := by rw [hb]; rfl
  have fin : ∀ (d : Dd) o', DdOk w d → Fd sc (C + 8) o' → Q (.d d.enc) (restr h (mput h a o') (.d d.enc)) := fun d' o' t f => by
    rw [restr_putd ha, restr_self]
    have z := k d' o' g t f hg
    rwa [put_id ((put_other (Ne.symm ne)).trans hb)] at z
  have gb : ∀ {oo : MO}, mput h a oo b = some (.lst [.int g]) := fun {oo} => (put_other (Ne.symm ne)).trans hb
  unfold deedR
  show dSeq _ _ _ [some (.own a), some (.d (.int w)), some (.own b), some (.d (.int x)), some (.d (.int y)), x5, x6] (mput h a o)
  walk_at "dl"
  refine w_drawS put_same F hs (by omega) ⟨by decide, by decide⟩ fun u o1 u0 u1 F1 => ?_
  rw [put_put]
  obtain ⟨nm, n1, n2⟩ : ∃ z : Str, atI [PyData.str "a", .str "b", .str "zz"] u = some (.str z) ∧ z ∈ nmL := by
    have : u = 0 ∨ u = 1 ∨ u = 2 := by omega
    rcases this with z | z | z <;> rw [z]
    · exact ⟨"a", rfl, by decide +kernel⟩
    · exact ⟨"b", rfl, by decide +kernel⟩
    · exact ⟨"zz", rfl, by decide +kernel⟩
  refine r_ixL n1 ?_
  walk_at "dl"
  refine w_drawS put_same F1 hs (by omega) ⟨by decide, by decide⟩ fun v o2 v0 v1 F2 => ?_
  rw [put_put]
  walk_at "dl"
  have tail : deedT (dEnd h Q) [some (.own a), some (.d (.int w)), some (.own b), some (.d (.int x)), some (.d (.int y)), some (.d (.str nm)), some (.d (.int v))] (mput h a o2) :=
    deed_tail hs hx hy ⟨v0, v1⟩ n2 ha hw F2 (by omega) fun d' o3 t3 F3 => fin d' o3 t3 (F3.up (by omega))
  refine k_and (fun q => ?_) fun q => ?_
  · walk_at "dl"
    refine k_if (fun q2 => ?_) fun q2 => ?_
    · have q3 := of_decide_eq_true q2
      walk_at "dl"
      rw [restr_putd hbs, restr_putd ha, restr_self]
      exact k .begin o2 (g + 1) trivial (F2.up (by omega)) (by omega)
    · refine e_next ?_
      exact tail
  · refine k_if (fun z => by cases z) fun _ => ?_
    refine e_next ?_
    exact tail
theorem w_deedS {w g : Int} (hs : sc.length ≤ 63) (hg : 3 ≤ g ∧ g ≤ 18) (ha : h a = some o) (hb : h b = some (.lst [.int g])) (ne : a ≠ b) (hw : 1 ≤ w ∧ w ≤ 3) (F : Fd sc C o) (hC : C + 30 ≤ 10 ^ 12)
    (k : ∀ (d : Dd) o' g', DdOk w d → Fd sc (C + 12) o' → 3 ≤ g' ∧ g' ≤ 18 → Q (.d d.enc) (mput (mput h a o') b (.lst [.int g']))) : W__law_deed [.own a, .d (.int w), .own b] h Q E := by
  have hsome := fd_some ha
  have gb : ∀ {oo : MO}, mput h a oo b = some (.lst [.int g]) := fun {oo} => (put_other (Ne.symm ne)).trans hb
  refine fnW_mk rfl ?_
  unfold t__law_deed
  show dSeq _ (dSeq _ deedR) _ [some (.own a), some (.d (.int w)), some (.own b), none, none, none, none] h
  walk_at "dl"
  refine w_drawS ha F hs (by omega) ⟨by decide, by decide⟩ fun y o1 y0 y1 F1 => ?_
  walk_at "dl"
  refine w_drawS put_same F1 hs (by omega) ⟨by decide, by decide⟩ fun u o2 u0 u1 F2 => ?_
  rw [put_put]
  walk_at "dl"
  try simp only [List.set_cons_succ, List.set_cons_zero]
  refine k_or (fun q => ?_) fun q => ?_
  · refine k_ifE (fun _ => ?_) fun z => by cases z
    walk_at "dl"
    refine w_drawS put_same F2 hs (by omega) ⟨by omega, by omega⟩ fun x o3 x0 x1 F3 => ?_
    rw [put_put]
    walk_at "dl"
    exact deed_rest hs (by omega) ⟨y0, y1⟩ hg hsome hb ne hw F3 (by omega) fun d' o' g' t F' z => k d' o' g' t (F'.up (by omega)) z
  walk_at "dl"
  refine w_drawS put_same F2 hs (by omega) ⟨by decide, by decide⟩ fun v o3 v0 v1 F3 => ?_
  rw [put_put]
  walk_at "dl"
  refine k_ifE (fun _ => ?_) fun _ => ?_
  · walk_at "dl"
    refine w_drawS put_same F3 hs (by omega) ⟨by omega, by omega⟩ fun x o4 x0 x1 F4 => ?_
    rw [put_put]
    walk_at "dl"
    exact deed_rest hs (by omega) ⟨y0, y1⟩ hg hsome hb ne hw F4 (by omega) fun d' o' g' t F' z => k d' o' g' t (F'.up (by omega)) z
  · walk_at "dl"
    have q' : ¬ g - 1 - u < 0 := by simpa using q
    exact deed_rest hs (by omega) ⟨y0, y1⟩ hg hsome hb ne hw F3 (by omega) fun d' o' g' t F' z => k d' o' g' t (F'.up (by omega)) z
end
section
variable {h : MH} {Q : DK} {E : DXK} {sc : List Int} {a b : Addr} {o : MO} {C : Int}
def opnL (v1 v2 v3 : List Int) (u : Bool) (v4 : List Int) (c : Int) (u2 : Bool) : List Dd := [.begin, .put 0 v1, .put 0 v2, .put 0 v3, .done 0, .build "a" 0 u, .step "a" 40, .step "a" 40, .step "a" 40, .step "a" 40, .begin, .put 1 v4, .build "b" c u2, .begin]
theorem w_openS {w : Int} (hs : sc.length ≤ 63) (ha : h a = some o) (hw : 1 ≤ w ∧ w ≤ 3) (F : Fd sc C o) (hC : C + 60 ≤ 10 ^ 12)
    (k : ∀ v1 v2 v3 u v4 c u2 o', (ValOk w v1 ∧ ValOk w v2 ∧ ValOk w v3 ∧ ValOk w v4) → 0 ≤ c ∧ c < w → Fd sc (C + 30) o' → Q (.d (.list ((opnL v1 v2 v3 u v4 c u2).map Dd.enc))) (mput h a o')) : W__law_opening [.own a, .d (.int w)] h Q E := by
  have hsome := fd_some ha
  refine fnW_mk rfl ?_
  unfold t__law_opening
  show dSeq _ _ _ [some (.own a), some (.d (.int w)), none, none] h
  walk_at "dl"
  refine k_wRg1 ⟨by decide, by decide⟩ ?_
  rw [rg0]
  refine ⟨by rw [sizeLine_eq, List.length_map, rgI_len]; decide, ?_⟩
  refine lc_inv (fun rs acc h' => ∃ (l1 l2 : List Int) (o' : MO) (vss : List (List Int)), rgI 3 = l1 ++ l2 ∧ rs = l2.map PyData.int ∧ vss.length = l1.length ∧ acc = vss.map (fun vs => (Dd.put 0 vs).enc) ∧ (∀ x ∈ vss, ValOk w x) ∧ h' = mput h a o' ∧ Fd sc (C + 3 * l1.length) o') ?_ ?_ _ [] _
    ⟨[], rgI 3, o, [], rfl, rfl, rfl, rfl, (fun x hx => by cases hx), (put_id ha).symm, F.up (by simp)⟩
  · rintro d r acc h1 KK ⟨l1, l2, o1, vss, el, er, hl, rfl, hv, rfl, F1⟩ hK
    obtain ⟨x, l3, rfl, rfl, rfl⟩ := map_cons_inv er
    have ll : l1.length + 1 ≤ 3 := by
      have := congrArg List.length el
      rw [rgI_len, List.length_append, List.length_cons] at this
      omega
    refine ⟨_, rfl, ?_⟩
    refine e_yes (k_lc (fun _ => ?_) fun q => by cases q)
    walk_at "dl"
    refine w_valuesS put_same F1 hs (by omega) hw fun vs o2 vl vr F2 => ?_
    rw [put_put]
    walk_at "dl"
    refine k_lcE ?_
    refine hK _ _ ⟨l1 ++ [x], l3, o2, vss ++ [vs], by rw [el]; simp, rfl, by rw [List.length_append, List.length_append, hl]; rfl, by rw [List.map_append]; rfl, fun z hz => ?_, rfl, F2.up (by rw [List.length_append, List.length_singleton]; omega)⟩
    rcases List.mem_append.mp hz with q | q
    · exact hv z q
    · rw [List.mem_singleton.mp q]; exact ⟨vl, vr⟩
  · rintro acc h1 ⟨l1, l2, o1, vss, el, er, hl, rfl, hv, rfl, F1⟩
    have e2 : l2 = [] := List.map_eq_nil_iff.mp er.symm
    subst e2
    rw [List.append_nil] at el
    subst el
    rw [rgI_len] at hl F1
    have hl3 : vss.length = 3 := hl
    match vss, hl3 with
    | [w1, w2, w3], _ =>
      walk_at "dl"
      refine r_addL (by simp) ?_
      walk_at "dl"
      refine w_drawS put_same F1 hs (by omega) ⟨by decide, by decide⟩ fun u o2 u0 u1 F2 => ?_
      rw [put_put]
      walk_at "dl"
      refine r_addL (by simp) ?_
      walk_at "dl"
      refine w_valuesS put_same F2 hs (by omega) hw fun vs o3 vl vr F3 => ?_
      rw [put_put]
      walk_at "dl"
      refine r_addL (by simp) ?_
      walk_at "dl"
      refine w_drawS put_same F3 hs (by omega) ⟨by omega, by omega⟩ fun u' o4 u0' u1' F4 => ?_
      rw [put_put]
      walk_at "dl"
      refine w_drawS put_same F4 hs (by omega) ⟨by decide, by decide⟩ fun u2 o5 u20 u21 F5 => ?_
      rw [put_put]
      walk_at "dl"
      refine r_addL (by simp) ?_
      walk_at "dl"
      rw [restr_putd hsome, restr_self]
      exact k w1 w2 w3 _ vs u' _ o5 ⟨hv _ (by simp), hv _ (by simp), hv _ (by simp), vl, vr⟩ ⟨u0', u1'⟩ (F5.up (by simp; omega))
end

/-! ### deeds as rows -/
def NmB (n : Str) : Prop := n.length ≤ 8 ∧ wordB (.str n) = true
def VB (w : Int) (vs : List Int) : Prop := (vs.length : Int) = w ∧ ∀ v ∈ vs, v.natAbs ≤ 999999999
def NB (i : Int) : Prop := 0 ≤ i ∧ i ≤ 999999999
/-- deeds that can be written and read back -/
def DdB (w : Int) : Dd → Prop
  | .put x vs => NB x ∧ VB w vs
  | .turn x r vs => NB x ∧ r.natAbs ≤ 999999999 ∧ VB w vs
  | .strike x r => NB x ∧ r.natAbs ≤ 999999999
  | .done x => NB x
  | .gone x => NB x
  | .build n c _ => NmB n ∧ NB c
  | .step n p => NmB n ∧ 1 ≤ p ∧ p ≤ 999999999
  | .leave n => NmB n
  | .drop n => NmB n
  | _ => True
theorem nm_ok {n : Str} (h : n ∈ nmL) : NmB n := by
  have go : ∀ n ∈ nmL, n.length ≤ 8 ∧ wordB (.str n) = true := by decide +kernel
  exact go n h
theorem DdOk.b {w : Int} {d : Dd} (h : DdOk w d) (hw : w ≤ 3) : DdB w d := by
  have vb : ∀ {vs}, ValOk w vs → VB w vs := fun {vs} v => ⟨v.1, fun x hx => by have := v.2 x hx; omega⟩
  have nb : ∀ {i : Int} {k : Int}, 0 ≤ i → i ≤ k → k ≤ 999999999 → NB i := fun a b c => ⟨a, by omega⟩
  cases d with
  | put x vs => exact ⟨nb h.1.1 h.1.2 (by decide), vb h.2⟩
  | turn x r vs => exact ⟨nb h.1.1 h.1.2 (by decide), (by have := h.2.1; omega), vb h.2.2⟩
  | strike x r => exact ⟨nb h.1.1 h.1.2 (by decide), by have := h.2; omega⟩
  | done x => exact nb h.1 h.2 (by decide)
  | gone x => exact nb h.1 h.2 (by decide)
  | build n c u => exact ⟨nm_ok h.1, h.2.1, by have := h.2.2; omega⟩
  | step n p => exact ⟨nm_ok h.1, by rcases h.2 with z | z | z <;> omega, by rcases h.2 with z | z | z <;> omega⟩
  | leave n => exact nm_ok h
  | drop n => exact nm_ok h
  | _ => trivial
def Dd.rw : Dd → Rw
  | .begin => ⟨"begin", []⟩
  | .put x vs => ⟨"put", [("writer", .int x), ("values", .tuple (vs.map PyData.int))]⟩
  | .turn x r vs => ⟨"turn", [("writer", .int x), ("number", .int r), ("values", .tuple (vs.map PyData.int))]⟩
  | .strike x r => ⟨"strike", [("writer", .int x), ("number", .int r)]⟩
  | .done x => ⟨"done", [("writer", .int x)]⟩
  | .gone x => ⟨"gone", [("writer", .int x)]⟩
  | .build n c u => ⟨"build", [("name", .str n), ("figure", .int c), ("truth", .bool u)]⟩
  | .step n p => ⟨"step", [("name", .str n), ("pace", .int p)]⟩
  | .leave n => ⟨"leave", [("name", .str n)]⟩
  | .drop n => ⟨"drop", [("name", .str n)]⟩
  | .clean => ⟨"clean", []⟩
  | .crash => ⟨"crash", []⟩
theorem Dd.enc_rw (d : Dd) : d.enc = d.rw.enc := by cases d <;> rfl
/-- a row of the log with w columns, not the first -/
structure RwC (w : Int) (r : Rw) : Prop where
  ok : RwOk r
  ns : ¬ r.w = "store"
  vals : ∀ p ∈ r.ps, p.1 = "values" → (lenT p.2 : Int) = w
theorem fm_w {x : Int} (h : NB x) : formB "writer" (.int x) = true ∧ ThB (.int x) := ⟨decide_eq_true h.1, by have := h.2; have := h.1; show x.natAbs ≤ 999999999; omega⟩
theorem fm_f {x : Int} (h : NB x) : formB "figure" (.int x) = true ∧ ThB (.int x) := ⟨decide_eq_true h.1, by have := h.2; have := h.1; show x.natAbs ≤ 999999999; omega⟩
theorem fm_n {x : Int} (h : x.natAbs ≤ 999999999) : formB "number" (.int x) = true ∧ ThB (.int x) := ⟨rfl, h⟩
theorem fm_p {x : Int} (h : 1 ≤ x ∧ x ≤ 999999999) : formB "pace" (.int x) = true ∧ ThB (.int x) := ⟨decide_eq_true h.1, by have := h.2; have := h.1; show x.natAbs ≤ 999999999; omega⟩
theorem fm_t {b : Bool} : formB "truth" (.bool b) = true ∧ ThB (.bool b) := ⟨rfl, trivial⟩
theorem fm_s {n : Str} (h : NmB n) : formB "name" (.str n) = true ∧ ThB (.str n) := ⟨h.2, h.1⟩
theorem fm_v {w : Int} {vs : List Int} (hw : 1 ≤ w ∧ w ≤ 3) (h : VB w vs) : formB "values" (.tuple (vs.map PyData.int)) = true ∧ ThB (.tuple (vs.map PyData.int)) := by
  have hl : (vs.map PyData.int).length = vs.length := List.length_map ..
  have h1 := h.1
  refine ⟨?_, by rw [hl]; omega, fun x hx => ?_⟩
  · have e : formB "values" (.tuple (vs.map PyData.int)) = ((decide (1 ≤ (vs.map PyData.int).length) && decide ((vs.map PyData.int).length ≤ 3)) && (vs.map PyData.int).all numB) := rfl
    rw [e, hl, decide_eq_true (by omega : 1 ≤ vs.length), decide_eq_true (by omega : vs.length ≤ 3)]
    show (vs.map PyData.int).all numB = true
    refine List.all_eq_true.mpr fun x hx => ?_
    obtain ⟨v, _, rfl⟩ := List.mem_map.mp hx
    rfl
  · obtain ⟨v, hv, rfl⟩ := List.mem_map.mp hx
    exact ⟨v, rfl, h.2 v hv⟩
theorem nv : ∀ s ∈ [("writer" : Str), "number", "name", "figure", "truth", "pace"], ¬ s = "values" := by decide +kernel
theorem DdB.row {w : Int} (hw : 1 ≤ w ∧ w ≤ 3) {d : Dd} (h : DdB w d) : RwC w d.rw := by
  have lv : ∀ {vs : List Int}, VB w vs → ((lenT (.tuple (vs.map PyData.int)) : Nat) : Int) = w := fun {vs} v => by
    show (((vs.map PyData.int).length : Nat) : Int) = w
    rw [List.length_map]
    exact v.1
  have st : ¬ d.rw.w = "store" := beq_eq_false_iff_ne.mp (by cases d <;> rfl)
  cases d with
  | put x vs =>
    refine ⟨⟨rfl, ?_⟩, st, ?_⟩ <;> simp only [Dd.rw, List.forall_mem_cons]
    · exact ⟨fm_w h.1, fm_v hw h.2, fun _ z => by cases z⟩
    · exact ⟨fun z => absurd z (nv _ (by simp)), fun _ => lv h.2, fun _ z => by cases z⟩
  | turn x r vs =>
    refine ⟨⟨rfl, ?_⟩, st, ?_⟩ <;> simp only [Dd.rw, List.forall_mem_cons]
    · exact ⟨fm_w h.1, fm_n h.2.1, fm_v hw h.2.2, fun _ z => by cases z⟩
    · exact ⟨fun z => absurd z (nv _ (by simp)), fun z => absurd z (nv _ (by simp)), fun _ => lv h.2.2, fun _ z => by cases z⟩
  | strike x r =>
    refine ⟨⟨rfl, ?_⟩, st, ?_⟩ <;> simp only [Dd.rw, List.forall_mem_cons]
    · exact ⟨fm_w h.1, fm_n h.2, fun _ z => by cases z⟩
    · exact ⟨fun z => absurd z (nv _ (by simp)), fun z => absurd z (nv _ (by simp)), fun _ z => by cases z⟩
  | done x =>
    refine ⟨⟨rfl, ?_⟩, st, ?_⟩ <;> simp only [Dd.rw, List.forall_mem_cons]
    · exact ⟨fm_w h, fun _ z => by cases z⟩
    · exact ⟨fun z => absurd z (nv _ (by simp)), fun _ z => by cases z⟩
  | gone x =>
    refine ⟨⟨rfl, ?_⟩, st, ?_⟩ <;> simp only [Dd.rw, List.forall_mem_cons]
    · exact ⟨fm_w h, fun _ z => by cases z⟩
    · exact ⟨fun z => absurd z (nv _ (by simp)), fun _ z => by cases z⟩
  | build n c u =>
    refine ⟨⟨rfl, ?_⟩, st, ?_⟩ <;> simp only [Dd.rw, List.forall_mem_cons]
    · exact ⟨fm_s h.1, fm_f h.2, fm_t, fun _ z => by cases z⟩
    · exact ⟨fun z => absurd z (nv _ (by simp)), fun z => absurd z (nv _ (by simp)), fun z => absurd z (nv _ (by simp)), fun _ z => by cases z⟩
  | step n p =>
    refine ⟨⟨rfl, ?_⟩, st, ?_⟩ <;> simp only [Dd.rw, List.forall_mem_cons]
    · exact ⟨fm_s h.1, fm_p h.2, fun _ z => by cases z⟩
    · exact ⟨fun z => absurd z (nv _ (by simp)), fun z => absurd z (nv _ (by simp)), fun _ z => by cases z⟩
  | leave n =>
    refine ⟨⟨rfl, ?_⟩, st, ?_⟩ <;> simp only [Dd.rw, List.forall_mem_cons]
    · exact ⟨fm_s h, fun _ z => by cases z⟩
    · exact ⟨fun z => absurd z (nv _ (by simp)), fun _ z => by cases z⟩
  | drop n =>
    refine ⟨⟨rfl, ?_⟩, st, ?_⟩ <;> simp only [Dd.rw, List.forall_mem_cons]
    · exact ⟨fm_s h, fun _ z => by cases z⟩
    · exact ⟨fun z => absurd z (nv _ (by simp)), fun _ z => by cases z⟩
  | begin => exact ⟨⟨rfl, fun _ z => by cases z⟩, st, fun _ z => by cases z⟩
  | clean => exact ⟨⟨rfl, fun _ z => by cases z⟩, st, fun _ z => by cases z⟩
  | crash => exact ⟨⟨rfl, fun _ z => by cases z⟩, st, fun _ z => by cases z⟩
/-! ### a written log read back -/
/-! ### rows and lines shown -/
theorem rowC_lt {c : Nat} (h : (rowC c || decide (c = 32)) = true) : c < 123 := by
  unfold rowC lowC digB at h
  simp only [Bool.or_eq_true, Bool.and_eq_true, decide_eq_true_eq] at h
  omega
theorem low_row {c : Nat} (h : lowC c = true) : (rowC c || decide (c = 32)) = true := by unfold rowC; rw [h]; rfl
theorem line_signs {r : Rw} (h : RwOk r) : ∀ c ∈ r.line.cps.toList, (rowC c || decide (c = 32)) = true := by
  intro c hc
  have e : r.line.cps.toList = TL.joinL (TL.tl " ") (r.words.map TL.tl) := by
    rw [← TL.tl_join, ← TL.join_eq]
    rfl
  rw [e] at hc
  rcases joinL_mem hc with q | ⟨p, hp, q⟩
  · rw [blank_tl] at q
    rw [List.mem_singleton.mp q]
    rfl
  · obtain ⟨y, hy, rfl⟩ := List.mem_map.mp hp
    rcases List.mem_cons.mp hy with rfl | z
    · exact low_row ((FTa_in h.form).2.2.2.2 c q)
    · obtain ⟨x, hx, rfl⟩ := List.mem_map.mp z
      obtain ⟨a, b, t⟩ := rw_parts h x hx
      rw [thW_signs a b t c q]
      rfl
section
variable {h : MH} {Q : DK} {E : DXK}
theorem w_law_line {ds : List PyData} (hd : ∀ d ∈ ds, ThB d) (hl : ds.length ≤ 10) (k : Q (.d (.str (Txt.join " " (ds.map thW)))) h) : W__law_line [.d (.tuple ds)] h Q E := by
  refine fnW_mk rfl ?_
  unfold t__law_line
  show dSeq _ _ _ [some (.d (.tuple ds)), none, none, none] h
  walk_at "dl"
  intro p hp
  walk_at "dl"
  try simp only [List.set_cons_succ, List.set_cons_zero]
  refine for_inv (fun rs σ h' => ∃ (l1 : List PyData) (x2 x3 : Option SV), ds = l1 ++ rs ∧ h' = mput h p (.lst ((l1.map thW).map PyData.str)) ∧ σ = [some (.d (.tuple ds)), some (.own p), x2, x3]) ?_ ?_ _ _ _ ⟨[], none, none, rfl, rfl, rfl⟩
  · rintro d rs σ h1 KK ⟨l1, x2, x3, el, rfl, rfl⟩ hK
    have hm : d ∈ ds := by rw [el]; simp
    have td := hd d hm
    have ll : l1.length + 1 ≤ 10 := by
      have := congrArg List.length el
      rw [List.length_append, List.length_cons] at this
      omega
    have hsz : ((l1.map thW).map PyData.str).length < 16777216 := by rw [List.length_map, List.length_map]; omega
    have fin : KK [some (.d (.tuple ds)), some (.own p), some (.d d), x3] (mput h p (.lst ((l1.map thW).map PyData.str ++ [.str (thW d)]))) :=
      hK _ _ ⟨l1 ++ [d], _, _, by rw [el]; simp, by rw [List.map_append, List.map_append]; rfl, rfl⟩
    refine ⟨_, rfl, ?_⟩
    try simp only [List.set_cons_succ, List.set_cons_zero]
    walk_at "dl"
    cases d with
    | bool b =>
      refine k_if (fun _ => ?_) fun z => by cases z
      walk_at "dl"
      cases b with
      | true =>
        refine k_ifE (fun _ => ?_) fun z => by cases z
        walk_at "dl"
        refine m_append put_same hsz ?_
        rw [put_put]
        walk_at "dl"
        exact fin
      | false =>
        refine k_ifE (fun z => by cases z) fun _ => ?_
        walk_at "dl"
        refine m_append put_same hsz ?_
        rw [put_put]
        walk_at "dl"
        exact fin
    | int i =>
      refine k_if (fun z => by cases z) fun _ => ?_
      walk_at "dl"
      refine k_ifE (fun z => by cases z) fun _ => ?_
      walk_at "dl"
      refine b_strAi (log_le td) ?_
      walk_at "dl"
      refine m_append put_same hsz ?_
      rw [put_put]
      walk_at "dl"
      exact fin
    | str z =>
      refine k_if (fun z => by cases z) fun _ => ?_
      walk_at "dl"
      refine k_ifE (fun z => by cases z) fun _ => ?_
      walk_at "dl"
      refine b_strAs ?_
      walk_at "dl"
      refine m_append put_same hsz ?_
      rw [put_put]
      walk_at "dl"
      exact fin
    | tuple xs =>
      obtain ⟨h1, h2⟩ : xs.length ≤ 3 ∧ ∀ x ∈ xs, ∃ i : Int, x = .int i ∧ i.natAbs ≤ 999999999 := td
      refine k_if (fun z => by cases z) fun _ => ?_
      walk_at "dl"
      refine k_ifE (fun _ => ?_) fun z => by cases z
      refine e_join2 ?_
      walk_at "dl"
      refine k_join1 ?_
      walk_at "dl"
      refine ⟨by rw [sizeLine_eq]; omega, ?_⟩
      refine lc_pure (fun _ => true) (fun d => .str (itW (numI d))) (fun d hd => ⟨_, rfl, fun K hK => ?_, fun _ K hK => ?_⟩) ?_
      · walk_at "dl"
        exact hK
      · walk_at "dl"
        obtain ⟨i, rfl, hi⟩ := h2 d hd
        refine b_strAi (log_le hi) ?_
        walk_at "dl"
        exact hK
      rw [List.filter_eq_self.mpr fun _ _ => rfl]
      have e : xs.map (fun d => PyData.str (itW (numI d))) = (xs.map fun d => itW (numI d)).map PyData.str := by rw [List.map_map]; rfl
      rw [e]
      walk_at "dl"
      refine k_join2 (words_ok (fun y hy => ?_) (by rw [List.length_map]; omega) _ (by decide +kernel)) ?_
      · obtain ⟨x, hx, rfl⟩ := List.mem_map.mp hy
        obtain ⟨i, rfl, hi⟩ := h2 x hx
        exact Nat.le_trans (itW_len hi) (by decide)
      walk_at "dl"
      refine m_append put_same hsz ?_
      rw [put_put]
      walk_at "dl"
      exact fin
    | _ => exact td.elim
  · rintro σ h1 ⟨l1, x2, x3, el, rfl, rfl⟩
    rw [List.append_nil] at el
    subst el
    walk_at "dl"
    refine e_join2 ?_
    walk_at "dl"
    refine k_join1 ?_
    walk_at "dl"
    refine k_join2O put_same (words_ok (fun y hy => ?_) (by rw [List.length_map]; omega) _ (by decide +kernel)) ?_
    · obtain ⟨x, hx, rfl⟩ := List.mem_map.mp hy
      exact thW_len (hd x hx)
    walk_at "dl"
    rw [restr_drop hp, restr_self]
    exact k
theorem w_law_lineR {r : Rw} (hr : RwOk r) (k : Q (.d (.str r.line)) h) : W__law_line [.d r.enc] h Q E := by
  obtain ⟨_, l3, _, w6, _⟩ := FTa_in hr.form
  rw [List.length_map] at l3
  refine w_law_line (ds := .str r.w :: r.ps.map (·.2)) (fun d hd => ?_) (by rw [List.length_cons, List.length_map]; omega) ?_
  · rcases List.mem_cons.mp hd with rfl | q
    · show r.w.length ≤ 8
      omega
    · obtain ⟨p, hp, rfl⟩ := List.mem_map.mp q
      exact (hr.things p hp).2
  · have e : (PyData.str r.w :: r.ps.map (·.2)).map thW = r.words := by
      rw [List.map_cons, List.map_map]
      rfl
    rw [e]
    exact k
end

/-! ### k86: the law's own reading of a word -/
def TxOk (z : Str) : Prop := z.length ≤ 900000 ∧ ∀ c ∈ z.cps.toList, c < 1114112
theorem strOk_of {z : Str} (h : ∀ c ∈ z.cps.toList, c < 1114112) : PySem.PyData.strOk z = true := by
  unfold PySem.PyData.strOk
  rw [Array.all_eq_true]
  intro i hi
  exact decide_eq_true (h _ (Array.getElem_mem_toList hi))
theorem cut1_hd (z : Str) : (cutS z none (some 1)).cps.toList = z.cps.toList.take 1 := by
  show (z.cps.toList.drop (HT.sIx z.length 0 none)).take (HT.sIx z.length z.length (some 1) - HT.sIx z.length 0 none) = z.cps.toList.take 1
  rw [HT.sIx_none, show HT.sIx z.length z.length (some 1) = min 1 z.length from HT.sIx_nat _ _ 1, List.drop_zero, Nat.sub_zero]
  refine List.take_eq_take_iff.mpr ?_
  rw [len_cps]
  omega
theorem eqv_nil (xs : List PyData) : PyData.eqv (.list xs) (.list []) = xs.isEmpty := by cases xs <;> simp [PyData.eqv, PyData.eqvAll]
theorem fil_empty {l : List Nat} {p : Nat → Bool} {f : Nat → PyData} : ((l.filter fun c => !p c).map f).isEmpty = l.all p := by
  rw [List.isEmpty_map]
  induction l with
  | nil => rfl
  | cons c l ih =>
    rw [List.filter_cons, List.all_cons]
    cases q : p c with
    | true => simpa using ih
    | false => rfl
theorem chars_shaped {l : List Nat} (h : ∀ c ∈ l, c < 1114112) : SeqAt.shaped (.list (l.map fun c => PyData.str ⟨#[c]⟩)) = true := by
  refine shaped_ok (n := 1) (by decide) ?_
  simp only [dOk]
  refine List.all_eq_true.mpr fun x hx => ?_
  obtain ⟨c, hc, rfl⟩ := List.mem_map.mp hx
  refine strOk_of fun d hd => ?_
  have : d = c := by simpa using hd
  rw [this]
  exact h c hc
theorem nil_shaped : SeqAt.shaped (.list []) = true := shaped_ok (n := 1) (by decide) rfl
section
variable {h : MH} {Q : DK} {E : DXK}
def numR : DTS := (dSeq (dIfS (dOr (dNot (dTest (dChain rdLe rdLe (dC (.int 1)) (dB rdLen (dCons (dVar 1) dNil)) (dC (.int 9))))) (dTest (dOp rdNe (dL (fLc (wTx (dVar 1)) (.nm 2) (dTest (dOp rdNotInTx (dVar 2) (dC (.str "0123456789")))) (dVar 2) [2])) (dL (fLst dNil))))) (dRet (dC .none)) dNext)
  (dSeq (dIfS (dAnd (dTest (dOp rdEq (dOp rdIx (dVar 1) (dC (.int 0))) (dC (.str "0")))) (dOr (dTest (dOp rdNe (dVar 1) (dC (.str "0")))) (dTest (dOp rdNe (dVar 0) (dC (.str "0")))))) (dRet (dC .none)) dNext)
  (dRet (dB rdIntTx (dCons (dVar 0) dNil)))))
theorem num_rest {z zf : Str} (hf : TxOk zf) (k1 : figsB zf.cps.toList = false → Q (.d .none) h)
    (k2 : figsB zf.cps.toList = true → zf.cps.toList.head? = some 48 → (!decide (zf.cps.toList = [48]) || !decide (z.cps.toList = [48])) = true → Q (.d .none) h)
    (k3 : figsB zf.cps.toList = true → ¬ (zf.cps.toList.head? = some 48 ∧ (!decide (zf.cps.toList = [48]) || !decide (z.cps.toList = [48])) = true) → ∃ v : Int, PySem.intText? z = some v ∧ z.length ≤ 640 ∧ Q (.d (.int v)) h) :
    numR (dEnd h Q) [some (.d (.str z)), some (.d (.str zf)), none] h := by
  have hl := len_cps zf
  have hz := hf.1
  have no : ∀ σ, figsB zf.cps.toList = false → (dRet (dC .none)) (dEnd h Q) σ h := fun σ q => by
    walk_at "dl"
    rw [restr_self]
    exact k1 q
  unfold numR
  walk_at "dl"
  refine e_chain ?_
  walk_at "dl"
  refine b_lenTx (by omega) ?_
  walk_at "dl"
  refine k_chain (fun q1 => ?_) fun q1 => ?_
  case' refine_2 =>
    walk_at "dl"
    refine k_or (fun _ => ?_) fun z => by cases z
    refine k_if (fun _ => ?_) fun z => by cases z
    refine no _ ?_
    have : ¬ 1 ≤ zf.cps.toList.length := by have := of_decide_eq_false q1; omega
    unfold figsB
    rw [decide_eq_false this]
    rfl
  have h1 : 1 ≤ zf.length := by have := of_decide_eq_true q1; omega
  walk_at "dl"
  refine k_or (fun q2 => ?_) fun q2 => ?_
  · refine k_if (fun _ => ?_) fun z => by cases z
    refine no _ ?_
    have : ¬ zf.cps.toList.length ≤ 9 := by simp at q2; omega
    unfold figsB
    rw [decide_eq_false this, Bool.and_false]
    rfl
  have h9 : zf.length ≤ 9 := by simp at q2; omega
  have ef : figsB zf.cps.toList = zf.cps.toList.all digB := by
    unfold figsB
    rw [decide_eq_true (by omega : 1 ≤ zf.cps.toList.length), decide_eq_true (by omega : zf.cps.toList.length ≤ 9)]
    rfl
  walk_at "dl"
  refine e_wTx2 ?_
  walk_at "dl"
  refine k_wTx ?_
  refine ⟨by rw [sizeLine_eq]; show (txD zf).length ≤ _; unfold txD; rw [List.length_map, Array.length_toList]; show zf.length ≤ _; omega, ?_⟩
  refine lc_enc (enc := fun c : Nat => PyData.str ⟨#[c]⟩) (out := fun c => .str ⟨#[c]⟩) (l := zf.cps.toList) (fun c => !digB c) (fun c _ => ⟨_, rfl, fun K hK => ?_, fun _ K hK => ?_⟩) ?_
  · walk_at "dl"
    refine r_notInTx ?_
    rw [in_dig]
    exact hK
  · walk_at "dl"
    exact hK
  walk_at "dl"
  refine r_ne rfl rfl (chars_shaped fun c hc => hf.2 c (List.mem_filter.mp hc).1) nil_shaped ?_
  rw [eqv_nil, fil_empty (p := digB)]
  walk_at "dl"
  refine k_if (fun q3 => ?_) fun q3 => ?_
  · refine no _ ?_
    rw [ef]
    simpa using q3
  have hd : zf.cps.toList.all digB = true := by simpa using q3
  have eT : figsB zf.cps.toList = true := by rw [ef, hd]
  refine e_next ?_
  dsimp only
  walk_at "dl"
  obtain ⟨c0, r0, hc⟩ : ∃ c r, zf.cps.toList = c :: r := by
    cases q : zf.cps.toList with
    | nil => rw [q] at hl; simp at hl; omega
    | cons c r => exact ⟨c, r, rfl⟩
  refine r_ixTx (n := 0) (c := c0) (by rw [hc]; unfold atI ixN; simp) (by omega) ?_
  walk_at "dl"
  rw [str_beq, zero_is]
  have e5 : decide ((⟨#[c0]⟩ : Str).cps.toList = [48]) = decide (zf.cps.toList.head? = some 48) := by
    rw [hc]
    refine decide_eq_decide.mpr ?_
    show [c0] = [48] ↔ some c0 = some 48
    simp
  rw [e5]
  have fin : ¬ (zf.cps.toList.head? = some 48 ∧ (!decide (zf.cps.toList = [48]) || !decide (z.cps.toList = [48])) = true) → (dRet (dB rdIntTx (dCons (dVar 0) dNil))) (dEnd h Q) [some (.d (.str z)), some (.d (.str zf)), none] h := fun q => by
    obtain ⟨v, v1, v2, v3⟩ := k3 eT q
    walk_at "dl"
    refine b_intTx v1 v2 ?_
    walk_at "dl"
    rw [restr_self]
    exact v3
  refine k_and (fun q5 => ?_) fun q5 => ?_
  · have q5' := of_decide_eq_true q5
    walk_at "dl"
    rw [str_beq, zero_is]
    refine k_or (fun q6 => ?_) fun q6 => ?_
    · refine k_if (fun _ => ?_) fun z => by cases z
      walk_at "dl"
      rw [restr_self]
      exact k2 eT q5' (by rw [q6]; rfl)
    walk_at "dl"
    rw [str_beq, zero_is]
    refine k_if (fun q7 => ?_) fun q7 => ?_
    · walk_at "dl"
      rw [restr_self]
      exact k2 eT q5' (by rw [q7, Bool.or_true])
    · refine e_next ?_
      exact fin fun y => by rw [q6, q7] at y; cases y.2
  · have q5' := of_decide_eq_false q5
    refine k_if (fun z => by cases z) fun _ => ?_
    refine e_next ?_
    exact fin fun y => q5' y.1
theorem w_lnum {z : Str} (hz : TxOk z) (k : Q (.d (numD z)) h) : W__law_number_in [.d (.str z)] h Q E := by
  have hz1 := hz.1
  refine fnW_mk rfl ?_
  unfold t__law_number_in
  show dSeq _ numR _ [some (.d (.str z)), none, none] h
  walk_at "dl"
  refine r_slTx (by omega) ?_
  walk_at "dl"
  rw [str_beq, minus_is, cut1_hd]
  by_cases q : z.cps.toList.head? = some 45
  · obtain ⟨r, hr⟩ : ∃ r, z.cps.toList = 45 :: r := by
      cases e : z.cps.toList with
      | nil => rw [e] at q; cases q
      | cons c r =>
        rw [e] at q
        exact ⟨r, by rw [show c = 45 from Option.some.inj q]⟩
    have e0 : numD z = (match figL r with
        | some (n + 1) => .int (-((n + 1 : Nat) : Int))
        | _ => .none) := by
      have e2 : numT z = (match figL r with
          | some (n + 1) => some (-((n + 1 : Nat) : Int))
          | _ => none) := by
        unfold numT
        rw [hr]
        rfl
      unfold numD
      rw [e2]
      cases figL r with
      | none => rfl
      | some n => cases n <;> rfl
    rw [e0] at k
    refine k_ifE (fun _ => ?_) fun y => by rw [hr] at y; cases y
    walk_at "dl"
    refine r_slTx (by omega) (k_nm ?_)
    have ez : (cutS z (some 1) none).cps.toList = r := by rw [cut1_tl, hr, List.drop_succ_cons, List.drop_zero]
    refine num_rest ⟨Nat.le_trans (cutS_length z _ _) hz1, fun c hc => hz.2 c (by rw [ez] at hc; rw [hr]; exact List.mem_cons_of_mem _ hc)⟩ (fun f => ?_) (fun f y _ => ?_) fun f y => ?_
    · rw [ez] at f
      have e : figL r = none := by unfold figL; rw [f]; rfl
      rw [e] at k
      exact k
    · rw [ez] at f y
      have e : figL r = none ∨ figL r = some 0 := by
        by_cases l : leadB r = true
        · right
          have e1 : r = [48] := by
            unfold leadB at l
            rw [Bool.or_eq_true] at l
            rcases l with l | l
            · exact of_decide_eq_true l
            · rw [decide_eq_true y] at l; cases l
          rw [e1]
          rfl
        · left
          unfold figL
          rw [f, show leadB r = false by simpa using l]
          rfl
      rcases e with e | e <;> rw [e] at k <;> exact k
    · rw [ez] at f y
      have y0 : ¬ r.head? = some 48 := fun y1 => y ⟨y1, by rw [hr]; simp⟩
      have l : leadB r = true := by unfold leadB; rw [decide_eq_false y0]; simp
      have e : figL r = some (NumText.digitsVal r) := by unfold figL; rw [f, l]; rfl
      rw [e] at k
      have f' := f
      unfold figsB at f'
      rw [Bool.and_eq_true, Bool.and_eq_true] at f'
      have f1 := of_decide_eq_true f'.1.1
      have f2 := of_decide_eq_true f'.1.2
      have hzl : z.length ≤ 10 := by rw [← len_cps, hr, List.length_cons]; omega
      refine ⟨_, intText_neg hr (digs_all f'.2) (fun e => by rw [e] at f1; cases f1) (by omega), by omega, ?_⟩
      cases q0 : NumText.digitsVal r with
      | zero =>
        exfalso
        have hd := digs_all f'.2
        have : ∀ (l : List Nat) (a : Nat), NumText.AllDigits l → a ≤ l.foldl (fun acc c => acc * 10 + (c - 48)) a := by
          intro l
          induction l with
          | nil => intro a _; exact Nat.le_refl _
          | cons c l ih =>
            intro a hl
            rw [List.foldl_cons]
            have := ih (a * 10 + (c - 48)) fun d hd => hl d (List.mem_cons_of_mem _ hd)
            omega
        cases e9 : r with
        | nil => rw [e9] at f1; cases f1
        | cons c l =>
          have hc := hd c (by rw [e9]; exact List.mem_cons_self)
          have h0 : ¬ c = 48 := fun y1 => y0 (by rw [e9, y1]; rfl)
          have g := this l (0 * 10 + (c - 48)) fun d hd' => hd d (by rw [e9]; exact List.mem_cons_of_mem _ hd')
          have v : NumText.digitsVal r = l.foldl (fun acc c => acc * 10 + (c - 48)) (0 * 10 + (c - 48)) := by rw [e9]; rfl
          omega
      | succ n =>
        rw [q0] at k
        exact k
  · have e0 : numD z = optN (figL z.cps.toList) := by
      have e2 : numT z = (figL z.cps.toList).map fun n => (n : Int) := by
        unfold numT
        split
        · rename_i r hr
          rw [hr] at q
          exact absurd rfl q
        · rfl
      unfold numD
      rw [e2]
      cases figL z.cps.toList <;> rfl
    rw [e0] at k
    refine k_ifE (fun y => ?_) fun _ => ?_
    · have y' := of_decide_eq_true y
      exfalso
      refine q ?_
      cases e : z.cps.toList with
      | nil => rw [e] at y'; cases y'
      | cons c r => rw [e] at y'; exact congrArg some (List.cons.inj y').1
    refine e_var rfl (k_nm ?_)
    refine num_rest hz (fun f => ?_) (fun f y g => ?_) fun f y => ?_
    · have e : figL z.cps.toList = none := by unfold figL; rw [f]; rfl
      rw [e] at k
      exact k
    · have e : figL z.cps.toList = none := by
        unfold figL leadB
        rw [decide_eq_true y]
        rw [Bool.or_self] at g
        have g' : decide (z.cps.toList = [48]) = false := by simpa using g
        rw [g', Bool.not_true, Bool.or_self, Bool.and_false]
        rfl
      rw [e] at k
      exact k
    · have l : leadB z.cps.toList = true := by
        unfold leadB
        by_cases y0 : z.cps.toList.head? = some 48
        · have : ¬ (!decide (z.cps.toList = [48]) || !decide (z.cps.toList = [48])) = true := fun g => y ⟨y0, g⟩
          rw [Bool.or_self] at this
          have g' : decide (z.cps.toList = [48]) = true := by simpa using this
          rw [g']
          rfl
        · rw [decide_eq_false y0]; simp
      have e : figL z.cps.toList = some (NumText.digitsVal z.cps.toList) := by unfold figL; rw [f, l]; rfl
      rw [e] at k
      have f' := f
      unfold figsB at f'
      rw [Bool.and_eq_true, Bool.and_eq_true] at f'
      have f1 := of_decide_eq_true f'.1.1
      have f2 := of_decide_eq_true f'.1.2
      have hzl : z.length ≤ 9 := by rw [← len_cps]; omega
      exact ⟨_, intText_digits (digs_all f'.2) (fun e => by rw [e] at f1; cases f1) (by omega), by omega, k⟩
theorem w_lword {z : Str} (hz : TxOk z) (k : Q (.d (.bool (wordB (.str z)))) h) : W__law_is_word [.d (.str z)] h Q E := by
  have hz1 := hz.1
  have ev : wordB (.str z) = ((decide (1 ≤ z.length) && decide (z.length ≤ 8)) && z.cps.toList.all lowC) := rfl
  rw [ev] at k
  refine fnW_mk rfl ?_
  unfold t__law_is_word
  show dRet _ _ [some (.d (.str z)), none] h
  walk_at "dl"
  refine e_chain ?_
  walk_at "dl"
  refine b_lenTx (by omega) ?_
  walk_at "dl"
  refine k_chain (fun q1 => ?_) fun q1 => ?_
  case' refine_2 =>
    refine k_andV (fun z => by cases z) fun _ => ?_
    walk_at "dl"
    rw [restr_self]
    have : ¬ 1 ≤ z.length := by have := of_decide_eq_false q1; omega
    rw [decide_eq_false this] at k
    exact k
  have h1 : 1 ≤ z.length := by have := of_decide_eq_true q1; omega
  rw [decide_eq_true h1] at k
  walk_at "dl"
  refine k_andV (fun q2 => ?_) fun q2 => ?_
  case' refine_2 =>
    walk_at "dl"
    rw [restr_self]
    have : ¬ z.length ≤ 8 := by have := of_decide_eq_false q2; omega
    rw [decide_eq_false this] at k
    exact k
  have h8 : z.length ≤ 8 := by have := of_decide_eq_true q2; omega
  rw [decide_eq_true h8] at k
  walk_at "dl"
  refine e_wTx2 ?_
  walk_at "dl"
  refine k_wTx ?_
  refine ⟨by rw [sizeLine_eq]; show (txD z).length ≤ _; unfold txD; rw [List.length_map, Array.length_toList]; show z.length ≤ _; omega, ?_⟩
  refine lc_enc (enc := fun c : Nat => PyData.str ⟨#[c]⟩) (out := fun c => .str ⟨#[c]⟩) (l := z.cps.toList) (fun c => !lowC c) (fun c _ => ⟨_, rfl, fun K hK => ?_, fun _ K hK => ?_⟩) ?_
  · walk_at "dl"
    refine r_notInTx ?_
    rw [in_low]
    exact hK
  · walk_at "dl"
    exact hK
  walk_at "dl"
  refine r_eq rfl rfl (chars_shaped fun c hc => hz.2 c (List.mem_filter.mp hc).1) nil_shaped ?_
  rw [eqv_nil, fil_empty (p := lowC)]
  walk_at "dl"
  rw [restr_self]
  exact k
end

/-! ### k86: the law's own reading of a line -/
def wdD : Option Int → PyData
  | some w => .int w
  | none => .none
def stB (f z : Str) (wd : Option Int) : Bool :=
  if f = "values" then (!((prtS z).any fun p => noneB (numD p))) && (decide ((prtS z).length ≤ 3) && (match wd with
    | some w => decide (((prtS z).length : Int) = w)
    | none => true))
  else if f = "name" then wordB (.str z)
  else if f = "truth" then decide (z = "yes") || decide (z = "no")
  else match numT z with
    | none => false
    | some i => if f = "number" then true else decide ((if f = "figure" then 0 else 1) ≤ i) && (!decide (f = "wide") || decide (i ≤ 3))
def lkL : List Str := ["values", "name", "truth", "number", "figure", "pace", "wide"]
theorem mul_chars {x y p : Str} {s : Nat} {S : List Nat} (ey : y.cps.toList = s :: S) (hk : y.cps.all (· < 256) = true) (h : p ∈ Txt.split x y) : ∀ c ∈ p.cps.toList, c ∈ x.cps.toList := by
  have go : ∀ (l acc : List Nat) (k : Nat), ∀ q ∈ TL.spl (s :: S) k acc l, ∀ c ∈ q, c ∈ acc ∨ c ∈ l := by
    intro l
    induction l with
    | nil =>
      intro acc k q hq c hc
      rw [TL.spl_nil] at hq
      rw [List.mem_singleton.mp hq] at hc
      exact .inl hc
    | cons d r ih =>
      intro acc k q hq c hc
      cases k with
      | succ k =>
        rcases ih acc k q hq c hc with z | z
        · exact .inl z
        · exact .inr (List.mem_cons_of_mem _ z)
      | zero =>
        cases hp : TL.pre (s :: S) (d :: r) with
        | true =>
          rw [TL.spl_hit hp] at hq
          rcases List.mem_cons.mp hq with e | e
          · rw [e] at hc; exact .inl hc
          · rcases ih [] _ q e c hc with z | z
            · cases z
            · exact .inr (List.mem_cons_of_mem _ z)
        | false =>
          rw [TL.spl_miss hp] at hq
          rcases ih _ _ q hq c hc with z | z
          · rcases List.mem_append.mp z with y | y
            · exact .inl y
            · rw [List.mem_singleton.mp y]; exact .inr List.mem_cons_self
          · exact .inr (List.mem_cons_of_mem _ z)
  have e := TL.split_spl x y (by show y.cps.toList ≠ []; rw [ey]; simp) (TL.kind_ok hk)
  have m : p.cps.toList ∈ TL.spl (s :: S) 0 [] x.cps.toList := by
    have z : p.cps.toList ∈ (Txt.split x y).map TL.tl := List.mem_map_of_mem h
    rw [e] at z
    have z2 : p.cps.toList ∈ TL.spl y.cps.toList 0 [] x.cps.toList := z
    rwa [ey] at z2
  intro c hc
  rcases go _ _ _ _ m c hc with z | z
  · cases z
  · exact z
theorem TxOk.part {x y p : Str} {s : Nat} {S : List Nat} (hx : TxOk x) (ey : y.cps.toList = s :: S) (hk : y.cps.all (· < 256) = true) (h : p ∈ Txt.split x y) : TxOk p :=
  ⟨Nat.le_trans (mul_parts ey hk h) hx.1, fun c hc => hx.2 c (mul_chars ey hk h c hc)⟩
theorem nums_shaped {l : List Str} : SeqAt.shaped (.list (l.map numD)) = true := by
  refine shaped_ok (n := 1) (by decide) ?_
  simp only [dOk]
  refine List.all_eq_true.mpr fun x hx => ?_
  obtain ⟨p, _, rfl⟩ := List.mem_map.mp hx
  exact numD_dok
section
variable {h : MH} {Q : DK} {E : DXK}
theorem w_stands {f z : Str} {wd : Option Int} (hf : f ∈ lkL) (hz : TxOk z) (k : Q (.d (.bool (stB f z wd))) h) : W__law_stands [.d (.str f), .d (.str z), .d (wdD wd)] h Q E := by
  have hz1 := hz.1
  refine fnW_mk rfl ?_
  unfold t__law_stands
  show dSeq _ _ _ [some (.d (.str f)), some (.d (.str z)), some (.d (wdD wd)), none, none, none] h
  unfold stB at k
  walk_at "dl"
  by_cases q1 : f = "values"
  · rw [if_pos q1] at k
    refine k_if (fun _ => ?_) fun y => absurd q1 (by simpa using y)
    walk_at "dl"
    refine e_split ?_
    walk_at "dl"
    refine k_split1 ?_
    walk_at "dl"
    refine k_split (by decide +kernel) (by omega) ?_
    walk_at "dl"
    have hl : (prtS z).length ≤ z.length + 2 := PyProof.Rows.split_le z ","
    refine ⟨by rw [sizeLine_eq, List.length_map]; show (prtS z).length ≤ _; omega, ?_⟩
    refine lc_enc (enc := PyData.str) (out := numD) (l := prtS z) (fun _ => true) (fun p hp => ⟨_, rfl, fun K hK => ?_, fun _ K hK => ?_⟩) ?_
    · walk_at "dl"
      exact hK
    · walk_at "dl"
      refine w_lnum (hz.part comma_is (by decide +kernel) hp) ?_
      walk_at "dl"
      exact hK
    rw [List.filter_eq_self.mpr fun _ _ => rfl]
    walk_at "dl"
    refine r_notInL rfl rfl rfl nums_shaped ?_
    have ea : (((prtS z).map numD).any fun d => PyData.eqv d .none) = (prtS z).any fun p => noneB (numD p) := by
      rw [List.any_map]
      congr 1
      funext p
      exact eqv_none _
    rw [ea]
    refine k_andV (fun q => ?_) fun q => ?_
    case' refine_2 =>
      rw [q] at k
      walk_at "dl"
      rw [restr_self]
      exact k
    rw [q] at k
    walk_at "dl"
    rw [List.length_map]
    refine k_andV (fun q2 => ?_) fun q2 => ?_
    case' refine_2 =>
      have q2' : decide ((prtS z).length ≤ 3) = false := by have := of_decide_eq_false q2; exact decide_eq_false (by omega)
      rw [q2'] at k
      walk_at "dl"
      rw [restr_self]
      exact k
    have q2' : decide ((prtS z).length ≤ 3) = true := by have := of_decide_eq_true q2; exact decide_eq_true (by omega)
    rw [q2'] at k
    walk_at "dl"
    cases wd with
    | none =>
      refine k_orV (fun _ => ?_) fun y => by cases y
      walk_at "dl"
      rw [restr_self]
      exact k
    | some w =>
      refine k_orV (fun y => by cases y) fun _ => ?_
      walk_at "dl"
      rw [restr_self]
      have e9 : PyData.eqv (.int ((List.map numD (prtS z)).length : Nat)) (wdD (some w)) = decide (((prtS z).length : Int) = w) := by
        rw [List.length_map]
        show PyData.eqv (.int _) (.int w) = _
        rw [eqv_int]
      rw [e9]
      exact k
  rw [if_neg q1] at k
  refine k_if (fun y => absurd (by simpa using y) q1) fun _ => ?_
  refine e_next ?_
  dsimp only
  walk_at "dl"
  by_cases q2 : f = "name"
  · rw [if_pos q2] at k
    refine k_if (fun _ => ?_) fun y => absurd q2 (by simpa using y)
    walk_at "dl"
    refine w_lword hz ?_
    walk_at "dl"
    rw [restr_self]
    exact k
  rw [if_neg q2] at k
  refine k_if (fun y => absurd (by simpa using y) q2) fun _ => ?_
  refine e_next ?_
  dsimp only
  walk_at "dl"
  by_cases q3 : f = "truth"
  · rw [if_pos q3] at k
    refine k_if (fun _ => ?_) fun y => absurd q3 (by simpa using y)
    walk_at "dl"
    refine r_inF2 rfl rfl rfl rfl ?_
    have e1 : ([PyData.str "yes", .str "no"].any fun y => PyData.eqv y (.str z)) = (decide (z = "yes") || decide (z = "no")) := by
      rw [List.any_cons, List.any_cons, List.any_nil, Bool.or_false, eqv_strs, eqv_strs]
      congr 1
      · exact decide_eq_decide.mpr eq_comm
      · exact decide_eq_decide.mpr eq_comm
    rw [e1]
    walk_at "dl"
    rw [restr_self]
    exact k
  rw [if_neg q3] at k
  refine k_if (fun y => absurd (by simpa using y) q3) fun _ => ?_
  refine e_next ?_
  dsimp only
  walk_at "dl"
  refine w_lnum hz ?_
  unfold numD
  cases hn : numT z with
  | none =>
    rw [hn] at k
    walk_at "dl"
    refine k_or (fun _ => ?_) fun y => by cases y
    refine k_if (fun _ => ?_) fun y => by cases y
    walk_at "dl"
    rw [restr_self]
    exact k
  | some i =>
    rw [hn] at k
    have k' : Q (.d (.bool (if f = "number" then true else decide ((if f = "figure" then (0 : Int) else 1) ≤ i) && (!decide (f = "wide") || decide (i ≤ 3))))) h := k
    clear k
    walk_at "dl"
    refine k_or (fun y => by cases y) fun _ => ?_
    walk_at "dl"
    by_cases q4 : f = "number"
    · rw [if_pos q4] at k'
      refine k_if (fun _ => ?_) fun y => absurd q4 (by simpa using y)
      walk_at "dl"
      rw [restr_self]
      exact k'
    rw [if_neg q4] at k'
    refine k_if (fun y => absurd (by simpa using y) q4) fun _ => ?_
    refine e_next ?_
    dsimp only
    walk_at "dl"
    have e2 : (if (!(f == ("figure" : Str))) = true then (1 : Int) else 0) = (if f = "figure" then (0 : Int) else 1) := by
      by_cases q5 : f = "figure"
      · rw [if_pos q5, beq_iff_eq.mpr q5]; rfl
      · rw [if_neg q5, beq_eq_false_iff_ne.mpr q5]; rfl
    have e3 : ((f == ("wide" : Str))) = decide (f = "wide") := by
      by_cases q5 : f = "wide"
      · rw [decide_eq_true q5]; exact beq_iff_eq.mpr q5
      · rw [decide_eq_false q5]; exact beq_eq_false_iff_ne.mpr q5
    refine k_andV (fun q5 => ?_) fun q5 => ?_
    case' refine_2 =>
      walk_at "dl"
      rw [restr_self]
      have q5' : decide ((if f = "figure" then (0 : Int) else 1) ≤ i) = false := by
        rw [← e2]
        simpa using q5
      rw [q5'] at k'
      exact k'
    have q5' : decide ((if f = "figure" then (0 : Int) else 1) ≤ i) = true := by
      rw [← e2]
      simpa using q5
    rw [q5'] at k'
    walk_at "dl"
    rw [e3]
    refine k_orV (fun q6 => ?_) fun q6 => ?_
    · walk_at "dl"
      rw [restr_self]
      rw [q6] at k'
      exact k'
    · walk_at "dl"
      rw [restr_self]
      rw [q6] at k'
      exact k'
end

/-! ### steps for dicts -/
section
variable {σ : DSt} {h : MH} {Q : DK} {a b : Addr} {ps qs : List (Key × SV)} {to ti tx te : DTE} {x y z : SV} {kk : Key}
theorem dc_own {h : MH} {a : Addr} {ps : List (Key × SV)} (e : h a = some (.dct ps)) : asDc h (.own a) = some (a, ps) := by unfold asDc; simp only [e]
def updK (te : DTE) (σ : DSt) (Q : DK) : DK := fun x h1 => match asDc h1 x with
  | some _ => te σ h1 fun y h2 => match asDc h2 x, asDc h2 y with
    | some p, some q => p.1 ≠ q.1 ∧ p.2.length + q.2.length ≤ sizeLine ∧ Q (.d .none) (mput h2 p.1 (.dct (mergeS p.2 q.2)))
    | _, _ => False
  | none => False
theorem e_upd (k : to σ h (updK te σ Q)) : dDUpd to te σ h Q := k
def updE (x y : SV) (Q : DK) : MH → Prop := fun h2 => match asDc h2 x, asDc h2 y with
    | some p, some q => p.1 ≠ q.1 ∧ p.2.length + q.2.length ≤ sizeLine ∧ Q (.d .none) (mput h2 p.1 (.dct (mergeS p.2 q.2)))
    | _, _ => False
theorem k_upd (e : h a = some (.dct ps)) (k : te σ h fun y h2 => updE (.own a) y Q h2) : updK te σ Q (.own a) h := by unfold updK; rw [dc_own e]; exact k
theorem k_updE (e : h a = some (.dct ps)) (e2 : h b = some (.dct qs)) (n : a ≠ b) (l : ps.length + qs.length ≤ 16777216) (k : Q (.d .none) (mput h a (.dct (mergeS ps qs)))) : updE (.own a) (.own b) Q h := by
  unfold updE
  rw [dc_own e, dc_own e2]
  exact ⟨n, by rw [sizeLine_eq]; exact l, k⟩
end

/-! ### k86: the law's own reading of a line, of a log -/
def LF : List (Str × List Str) := [("begin", []), ("put", ["figure", "values"]), ("turn", ["figure", "number", "values"]), ("clean", []), ("crash", []), ("strike", ["figure", "number"]), ("done", ["figure"]), ("gone", ["figure"]), ("leave", ["name"]), ("build", ["name", "figure", "truth"]), ("step", ["name", "pace"]), ("drop", ["name"]), ("store", ["wide"])]
def lD (l : List (Str × List Str)) : List (Key × SV) := l.map fun p => (.inr p.1, .d (.list (p.2.map PyData.str)))
theorem valS_lD {x : Str} : ∀ l : List (Str × List Str), valS (lD l) (.inr x) = (l.lookup x).map fun fs => SV.d (.list (fs.map PyData.str))
  | [] => rfl
  | (a, fs) :: r => by
    have ih := valS_lD (x := x) r
    unfold valS lD at ih ⊢
    rw [List.map_cons, List.find?_cons, List.lookup_cons]
    by_cases q : a = x
    · subst q
      rw [beq_self_eq_true]
      simp
    · have e1 : (x == a) = false := by simpa using fun z => q z.symm
      have e2 : decide ((Sum.inr a : Key) = .inr x) = false := decide_eq_false fun z => q (Sum.inr.inj z)
      rw [e1]
      dsimp only
      rw [e2]
      exact ih
theorem LF_in {w : Str} {fs : List Str} (h : LF.lookup w = some fs) : (∀ f ∈ fs, f ∈ lkL) ∧ fs.length ≤ 3 := by
  have m : (w, fs) ∈ LF := lookup_mem h
  have go : ∀ p ∈ LF, (∀ f ∈ p.2, f ∈ lkL) ∧ p.2.length ≤ 3 := by decide +kernel
  exact go _ m
def lawT (wd : Option Int) : List Str → List Str → Nat → Option Nat
  | [], [], _ => none
  | _ :: _, [], k => some k
  | [], _ :: _, k => some k
  | f :: fs, v :: vs, k => if stB f v wd = true then lawT wd fs vs (k + 1) else some k
def lawL (can : Bool) (wd : Option Int) : List Str → Option Nat
  | [] => some 0
  | w :: wt => match LF.lookup w with
    | none => some 0
    | some fs => if (decide (w = "store") && !can) = true then some 0 else lawT wd fs wt 1
theorem cut_tail {w : PyData} {wt : List PyData} : cutD (w :: wt) (some 1) none = wt := by
  unfold cutD
  have e1 : HT.sIx (w :: wt).length 0 (some 1) = min 1 (w :: wt).length := HT.sIx_nat _ _ 1
  rw [e1, HT.sIx_none, List.length_cons, Nat.min_eq_left (by omega), List.drop_succ_cons, List.drop_zero]
  exact List.take_of_length_le (by omega)
def FA : List (Key × SV) := [(.inr "begin", .d (.list [])), (.inr "put", .d (.list [.str "figure", .str "values"])), (.inr "turn", .d (.list [.str "figure", .str "number", .str "values"])), (.inr "clean", .d (.list [])), (.inr "crash", .d (.list []))]
def FB : List (Key × SV) := [(.inr "strike", .d (.list [.str "figure", .str "number"])), (.inr "done", .d (.list [.str "figure"])), (.inr "gone", .d (.list [.str "figure"])), (.inr "leave", .d (.list [.str "name"]))]
def FC : List (Key × SV) := [(.inr "build", .d (.list [.str "name", .str "figure", .str "truth"])), (.inr "step", .d (.list [.str "name", .str "pace"])), (.inr "drop", .d (.list [.str "name"])), (.inr "store", .d (.list [.str "wide"]))]
section
variable {h : MH} {Q : DK} {E : DXK}
theorem w_lforms (k : ∀ p, h p = none → Q (.own p) (mput h p (.dct (lD LF)))) : W__law_forms [] h Q E := by
  refine fnW_mk rfl ?_
  unfold t__law_forms
  show dSeq _ _ _ [none] h
  refine e_seq (e_asg (e_disp fun p hp => ?_))
  refine e_prC (e_c ?_)
  walk_at "dl"
  refine e_prC (e_c ?_)
  walk_at "dl"
  refine e_prC (e_c ?_)
  walk_at "dl"
  refine e_prC (e_c ?_)
  walk_at "dl"
  refine e_prC (e_c ?_)
  walk_at "dl"
  refine e_prN ?_
  refine k_disp (rs := FA) rfl put_same rfl rfl ?_
  rw [put_put]
  walk_at "dl"
  refine e_upd (e_var rfl (k_upd put_same (e_disp fun p2 hp2 => ?_)))
  have ne : p ≠ p2 := fun z => by rw [← z, put_same] at hp2; cases hp2
  refine e_prC (e_c ?_)
  walk_at "dl"
  refine e_prC (e_c ?_)
  walk_at "dl"
  refine e_prC (e_c ?_)
  walk_at "dl"
  refine e_prC (e_c ?_)
  walk_at "dl"
  refine e_prN ?_
  refine k_disp (rs := FB) rfl put_same rfl rfl ?_
  rw [put_put]
  refine k_updE ((put_other ne).trans put_same) put_same ne (by decide) ?_
  walk_at "dl"
  refine e_upd (e_var rfl (k_upd put_same (e_disp fun p3 hp3 => ?_)))
  have ne3 : p ≠ p3 := fun z => by rw [← z, put_same] at hp3; cases hp3
  refine e_prC (e_c ?_)
  walk_at "dl"
  refine e_prC (e_c ?_)
  walk_at "dl"
  refine e_prC (e_c ?_)
  walk_at "dl"
  refine e_prC (e_c ?_)
  walk_at "dl"
  refine e_prN ?_
  refine k_disp (rs := FC) rfl put_same rfl rfl ?_
  rw [put_put]
  refine k_updE ((put_other ne3).trans put_same) put_same ne3 (by decide) ?_
  have eD : mergeS (mergeS FA FB) FC = lD LF := rfl
  rw [eD]
  have n2 : h p2 = none := by rw [put_other (Ne.symm ne)] at hp2; exact hp2
  have n3 : h p3 = none := by
    have z := hp3
    rw [put_other (Ne.symm ne3)] at z
    by_cases q : p3 = p2
    · rw [q]; exact n2
    · rw [put_other q, put_other (Ne.symm ne3)] at z; exact z
  have fin : restr h (mput (mput (mput (mput (mput h p (.dct FA)) p2 (.dct FB)) p (.dct (mergeS FA FB))) p3 (.dct FC)) p (.dct (lD LF))) (.own p) = mput h p (.dct (lD LF)) := by
    funext b
    by_cases q1 : b = p
    · rw [q1, put_same]
      unfold restr
      rw [put_same]
      simp [SV.isOwn]
    · have e2 : mput h p (.dct (lD LF)) b = h b := put_other q1
      rw [e2]
      unfold restr
      have e3 : SV.isOwn (.own p) b = false := by
        show Nat.beq p b = false
        cases z : Nat.beq p b with
        | false => rfl
        | true => exact absurd (Nat.eq_of_beq_eq_true z).symm q1
      rw [e3, Bool.or_false]
      cases q2 : h b with
      | none => rfl
      | some o =>
        have b2 : b ≠ p2 := fun z => by rw [z, n2] at q2; cases q2
        have b3 : b ≠ p3 := fun z => by rw [z, n3] at q2; cases q2
        show mput _ _ _ b = some o
        rw [put_other q1, put_other b3, put_other q1, put_other b2, put_other q1]
        exact q2
  walk_at "dl"
  rw [fin]
  exact k p hp
theorem w_amiss {z : Str} {can : Bool} {wd : Option Int} (hz : TxOk z) (k : Q (.d (optN (lawL can wd (Txt.split z " ")))) h) : W__law_amiss [.d (.str z), .d (.bool can), .d (wdD wd)] h Q E := by
  have hz1 := hz.1
  obtain ⟨w, wt, hs⟩ := split_ne (x := z) (y := " ") (by rw [blank_is]; simp) (by decide +kernel)
  have hwt : ∀ v ∈ wt, TxOk v := fun v hv => hz.part blank_is (by decide +kernel) (by rw [hs]; exact List.mem_cons_of_mem _ hv)
  have hlw : wt.length ≤ 1000000 := by
    have := PyProof.Rows.split_le z " "
    rw [hs, List.length_cons] at this
    omega
  rw [hs] at k
  have eL : lawL can wd (w :: wt) = match LF.lookup w with
    | none => some 0
    | some fs => if (decide (w = "store") && !can) = true then some 0 else lawT wd fs wt 1 := rfl
  rw [eL] at k
  refine fnW_mk rfl ?_
  unfold t__law_amiss
  show dSeq _ _ _ [some (.d (.str z)), some (.d (.bool can)), some (.d (wdD wd)), none, none, none, none, none] h
  walk_at "dl"
  refine e_split ?_
  walk_at "dl"
  refine k_split1 ?_
  walk_at "dl"
  refine k_split (by decide +kernel) (by omega) ?_
  rw [hs]
  walk_at "dl"
  refine w_lforms fun p hp => ?_
  walk_at "dl"
  refine r_ixL (d := .str w) at0 ?_
  walk_at "dl"
  refine r_notInDc put_same rfl ?_
  rw [valS_lD]
  walk_at "dl"
  have zero : Q (.d (.int 0)) h → (dRet (dC (.int 0))) (dEnd h Q) [some (.d (.str z)), some (.d (.bool can)), some (.d (wdD wd)), none, some (.d (.list ((w :: wt).map PyData.str))), some (.own p), none, none] (mput h p (.dct (lD LF))) := fun k0 => by
    walk_at "dl"
    rw [restr_drop hp, restr_self]
    exact k0
  cases hf : LF.lookup w with
  | none =>
    rw [hf] at k
    refine k_or (fun _ => ?_) fun y => by cases y
    refine k_if (fun _ => ?_) fun y => by cases y
    exact zero k
  | some fs =>
    rw [hf] at k
    have k' : Q (.d (optN (if (decide (w = "store") && !can) = true then some 0 else lawT wd fs wt 1))) h := k
    clear k
    refine k_or (fun y => by cases y) fun _ => ?_
    walk_at "dl"
    refine r_ixL (d := .str w) at0 ?_
    walk_at "dl"
    have body : Q (.d (optN (lawT wd fs wt 1))) h → (dSeq (dAsg (dOp rdIx (dVar 5) (dOp rdIx (dVar 4) (dC (.int 0)))) (.nm 3))
        (dSeq (dFor (wEnum (dSl (dVar 4) (dPart (dC (.int 1))) dNoPart)) (.tup [6, 7]) (dIfS (dOr (dTest (dOp rdGe (dVar 6) (dB rdLen (dCons (dVar 3) dNil)))) (dNot (dTest (dCall noX W__law_stands (dCons (dOp rdIx (dVar 3) (dVar 6)) (dCons (dVar 7) (dCons (dVar 2) dNil))))))) (dRet (dOp rdAdd (dVar 6) (dC (.int 1)))) dNext))
        (dRet (dIf (dTest (dOp rdLe (dB rdLen (dCons (dVar 4) dNil)) (dB rdLen (dCons (dVar 3) dNil)))) (dB rdLen (dCons (dVar 4) dNil)) (dC .none))))) (dEnd h Q) [some (.d (.str z)), some (.d (.bool can)), some (.d (wdD wd)), none, some (.d (.list ((w :: wt).map PyData.str))), some (.own p), none, none] (mput h p (.dct (lD LF))) := fun kk => by
      obtain ⟨m1, m2⟩ := LF_in hf
      walk_at "dl"
      refine r_ixL (d := .str w) at0 ?_
      refine r_ixD put_same rfl (by rw [valS_lD, hf]; rfl) ?_
      walk_at "dl"
      have ec : cutD ((w :: wt).map PyData.str) (some 1) none = wt.map PyData.str := by rw [List.map_cons]; exact cut_tail
      rw [ec]
      walk_at "dl"
      try simp only [List.set_cons_succ, List.set_cons_zero]
      refine for_inv (fun r σ h' => ∃ (i : Nat) (x6 x7 : Option SV), r = (enumD (wt.map PyData.str)).drop i ∧ i ≤ wt.length ∧ i ≤ fs.length ∧ h' = mput h p (.dct (lD LF)) ∧ lawT wd fs wt 1 = lawT wd (fs.drop i) (wt.drop i) (i + 1) ∧
          σ = [some (.d (.str z)), some (.d (.bool can)), some (.d (wdD wd)), some (.d (.list (fs.map PyData.str))), some (.d (.list ((w :: wt).map PyData.str))), some (.own p), x6, x7]) ?_ ?_ _ _ _
        ⟨0, none, none, rfl, Nat.zero_le _, Nat.zero_le _, rfl, rfl, rfl⟩
      · rintro d r σ h1 KK ⟨i, x6, x7, er, hi, hif, rfl, eT, rfl⟩ hK
        obtain ⟨x, e1, rfl, rfl⟩ := enum_at er
        rw [List.getElem?_map] at e1
        obtain ⟨v, ev, rfl⟩ := Option.map_eq_some_iff.mp e1
        have hiw : i < wt.length := (List.getElem?_eq_some_iff.mp ev).1
        have evd : wt.drop i = v :: wt.drop (i + 1) := by
          rw [List.drop_eq_getElem_cons hiw]
          rw [List.getElem?_eq_getElem hiw] at ev
          rw [Option.some.inj ev]
        have hvm : v ∈ wt := List.mem_of_getElem? ev
        refine ⟨_, bind2, ?_⟩
        try simp only [List.set_cons_succ, List.set_cons_zero]
        walk_at "dl"
        rw [List.length_map]
        rw [evd] at eT
        have stop : lawT wd fs wt 1 = some (i + 1) → (dRet (dOp rdAdd (dVar 6) (dC (.int 1)))) { nx := KK, rt := (dEnd h Q).rt, bk := fun σ' h' => dRet (dIf (dTest (dOp rdLe (dB rdLen (dCons (dVar 4) dNil)) (dB rdLen (dCons (dVar 3) dNil)))) (dB rdLen (dCons (dVar 4) dNil)) (dC .none)) (dEnd h Q) σ' h', ct := KK } [some (.d (.str z)), some (.d (.bool can)), some (.d (wdD wd)), some (.d (.list (fs.map PyData.str))), some (.d (.list ((w :: wt).map PyData.str))), some (.own p), some (.d (.int (i : Nat))), some (.d (.str v))] (mput h p (.dct (lD LF))) := fun e => by
          rw [e] at kk
          walk_at "dl"
          rw [restr_drop hp, restr_self]
          exact kk
        refine k_or (fun q => ?_) fun q => ?_
        · have q' : fs.length ≤ i := by have := of_decide_eq_true q; omega
          have ed : fs.drop i = [] := List.drop_of_length_le q'
          refine k_if (fun _ => ?_) fun y => by cases y
          exact stop (by rw [eT, ed]; rfl)
        · have q' : i < fs.length := by have := of_decide_eq_false q; omega
          have ed : fs.drop i = fs[i] :: fs.drop (i + 1) := List.drop_eq_getElem_cons q'
          have eU : lawT wd (fs[i] :: fs.drop (i + 1)) (v :: wt.drop (i + 1)) (i + 1) = if stB fs[i] v wd = true then lawT wd (fs.drop (i + 1)) (wt.drop (i + 1)) (i + 1 + 1) else some (i + 1) := rfl
          rw [ed, eU] at eT
          walk_at "dl"
          refine r_ixL (d := .str fs[i]) (at_nat (by rw [List.getElem?_map, List.getElem?_eq_getElem q']; rfl)) ?_
          walk_at "dl"
          refine w_stands (m1 _ (List.getElem_mem q')) (hwt v hvm) ?_
          walk_at "dl"
          refine k_if (fun q2 => ?_) fun q2 => ?_
          · have q3 : stB fs[i] v wd = false := by simpa using q2
            exact stop (by rw [eT, q3]; rfl)
          · have q3 : stB fs[i] v wd = true := by simpa using q2
            refine e_next ?_
            dsimp only
            exact hK _ _ ⟨i + 1, _, _, rfl, hiw, q', rfl, by rw [eT, if_pos q3], rfl⟩
      · rintro σ h1 ⟨i, x6, x7, er, hi, hif, rfl, eT, rfl⟩
        have hi2 : i = wt.length := by
          have y := congrArg List.length er
          rw [List.length_drop, enumD_len, List.length_map, List.length_nil] at y
          omega
        have edr : wt.drop i = [] := List.drop_of_length_le (by omega)
        rw [edr] at eT
        walk_at "dl"
        rw [List.length_map, List.length_map, List.length_cons]
        refine k_ifE (fun q => ?_) fun q => ?_
        · have q' : wt.length < fs.length := by have := of_decide_eq_true q; omega
          have ed : fs.drop i = fs[i] :: fs.drop (i + 1) := List.drop_eq_getElem_cons (by omega)
          rw [ed] at eT
          have eU : lawT wd (fs[i] :: fs.drop (i + 1)) [] (i + 1) = some (i + 1) := rfl
          rw [eU, hi2] at eT
          rw [eT] at kk
          walk_at "dl"
          rw [restr_drop hp, restr_self, List.length_map, List.length_cons]
          exact kk
        · have q' : fs.length ≤ wt.length := by have := of_decide_eq_false q; omega
          have ed : fs.drop i = [] := List.drop_of_length_le (by omega)
          rw [ed] at eT
          have eU : lawT wd [] [] (i + 1) = none := rfl
          rw [eU] at eT
          rw [eT] at kk
          walk_at "dl"
          rw [restr_drop hp, restr_self]
          exact kk
    by_cases qs : w = "store"
    · refine k_and (fun _ => ?_) fun y => absurd qs (by simpa using y)
      walk_at "dl"
      cases can with
      | true =>
        refine k_if (fun y => by cases y) fun _ => ?_
        refine e_next ?_
        rw [decide_eq_true qs] at k'
        exact body k'
      | false =>
        refine k_if (fun _ => ?_) fun y => by cases y
        rw [decide_eq_true qs] at k'
        exact zero k'
    · refine k_and (fun y => absurd (by simpa using y) qs) fun _ => ?_
      refine k_if (fun y => by cases y) fun _ => ?_
      refine e_next ?_
      rw [decide_eq_false qs] at k'
      exact body k'
end

/-! ### k86: told, a log's reading -/
theorem num_text {z : Str} {i : Int} (h : numT z = some i) (h1 : 1 ≤ i) : PySem.intText? z = some i ∧ z.length ≤ 640 := by
  have hn : ¬ ∃ r, z.cps.toList = 45 :: r := fun ⟨r, hr⟩ => by
    have e2 : numT z = (match figL r with
        | some (n + 1) => some (-((n + 1 : Nat) : Int))
        | _ => none) := by
      unfold numT
      rw [hr]
      rfl
    rw [e2] at h
    cases q : figL r with
    | none => rw [q] at h; cases h
    | some n =>
      rw [q] at h
      cases n with
      | zero => cases h
      | succ n =>
        have h' : some (-((n + 1 : Nat) : Int)) = some i := h
        have := Option.some.inj h'
        omega
  have e2 : numT z = (figL z.cps.toList).map fun n => (n : Int) := by
    unfold numT
    split
    · rename_i r hr
      exact absurd ⟨r, hr⟩ hn
    · rfl
  rw [e2] at h
  unfold figL at h
  by_cases q : (figsB z.cps.toList && leadB z.cps.toList) = true
  · rw [if_pos q] at h
    rw [Bool.and_eq_true] at q
    have f' := q.1
    unfold figsB at f'
    rw [Bool.and_eq_true, Bool.and_eq_true] at f'
    have f1 := of_decide_eq_true f'.1.1
    have f2 := of_decide_eq_true f'.1.2
    have hl := len_cps z
    have hv : ((NumText.digitsVal z.cps.toList : Nat) : Int) = i := Option.some.inj h
    rw [← hv]
    exact ⟨intText_digits (digs_all f'.2) (fun e => by rw [e] at f1; cases f1) (by omega), by omega⟩
  · rw [if_neg q] at h
    cases h
theorem ths_oneV {wt : List Str} {xs : List PyData} (e : thsE ["columns"] wt 1 = .ok xs) : ∃ v c, wt = [v] ∧ xs = [.int c] ∧ numT v = some c ∧ 1 ≤ c ∧ c ≤ 3 := by
  obtain ⟨c, hx, c1, c2⟩ := ths_one e
  cases wt with
  | nil => cases e
  | cons w wt =>
    have eU : thsE ["columns"] (w :: wt) 1 = if noneB (thgD "columns" w) = true then .error 1 else (thsE [] wt 2).map (fun xs => thgD "columns" w :: xs) := rfl
    rw [eU] at e
    split at e
    · cases e
    cases wt with
    | cons _ _ => cases e
    | nil =>
      have e' : (Except.ok [thgD "columns" w] : Except Nat (List PyData)) = .ok xs := e
      injection e' with e'
      rw [hx] at e'
      injection e' with e'
      refine ⟨w, c, rfl, hx, ?_, c1, c2⟩
      have ed : thgD "columns" w = if (!noneB (numD w) && formB "columns" (numD w)) = true then numD w else .none := rfl
      rw [ed] at e'
      split at e'
      · unfold numD at e'
        cases q : numT w with
        | none => rw [q] at e'; cases e'
        | some j => rw [q] at e'; injection e' with e'; rw [e']
      · cases e'
def kf (f : Str) : Str := if f = "writer" then "figure" else if f = "columns" then "wide" else f
theorem noneB_thg {f z : Str} : (!noneB (thgD f z)) = (!noneB (rdgD f z) && formB f (rdgD f z)) := by
  unfold thgD
  cases q : (!noneB (rdgD f z) && formB f (rdgD f z)) with
  | true =>
    rw [if_pos rfl]
    rw [Bool.and_eq_true] at q
    exact q.1
  | false =>
    rw [if_neg Bool.false_ne_true]
    rfl
theorem stB_num {f g z : Str} (B : Int → Bool) (hg : stB g z none = match numT z with
    | none => false
    | some i => B i) (hr : rdgD f z = numD z) (hb : ∀ i : Int, formB f (.int i) = B i) : stB g z none = !noneB (thgD f z) := by
  rw [noneB_thg, hr, hg]
  unfold numD
  cases numT z with
  | none => rfl
  | some i => exact (hb i).symm
theorem vals_form {z : Str} (h : ((prtS z).any fun p => noneB (numD p)) = false) : formB "values" (.tuple ((prtS z).map numD)) = decide ((prtS z).length ≤ 3) := by
  obtain ⟨w, wt, hs⟩ := split_ne (x := z) (y := ",") (by rw [comma_is]; simp) (by decide +kernel)
  have hl : 1 ≤ (prtS z).length := by
    show 1 ≤ (Txt.split z ",").length
    rw [hs, List.length_cons]
    omega
  have e : formB "values" (.tuple ((prtS z).map numD)) = ((decide (1 ≤ ((prtS z).map numD).length) && decide (((prtS z).map numD).length ≤ 3)) && ((prtS z).map numD).all numB) := rfl
  have ha : ((prtS z).map numD).all numB = true := by
    refine List.all_eq_true.mpr fun x hx => ?_
    obtain ⟨p, hp, rfl⟩ := List.mem_map.mp hx
    have y := List.any_eq_false.mp h p hp
    unfold numD at y ⊢
    cases q : numT p with
    | none => rw [q] at y; exact absurd rfl y
    | some i => rfl
  rw [e, ha, List.length_map, decide_eq_true hl, Bool.true_and, Bool.and_true]
theorem stB_vals {z : Str} {wd : Option Int} : stB "values" z wd = (!noneB (thgD "values" z) && (match wd with
    | some w => decide (((lenT (valsD z) : Nat) : Int) = w)
    | none => true)) := by
  have e1 : stB "values" z wd = ((!((prtS z).any fun p => noneB (numD p))) && (decide ((prtS z).length ≤ 3) && (match wd with
    | some w => decide (((prtS z).length : Int) = w)
    | none => true))) := rfl
  have e2 : rdgD "values" z = valsD z := rfl
  rw [noneB_thg, e1, e2]
  unfold valsD
  cases q : ((prtS z).any fun p => noneB (numD p)) with
  | true => rw [if_pos rfl]; rfl
  | false =>
    rw [if_neg Bool.false_ne_true, vals_form q]
    rw [show lenT (PyData.tuple ((prtS z).map numD)) = (prtS z).length from List.length_map ..]
    cases decide ((prtS z).length ≤ 3) <;> rfl
theorem stB_thg {f z : Str} (hf : f ∈ kindL) : stB (kf f) z none = !noneB (thgD f z) := by
  unfold kindL at hf
  simp only [List.mem_cons, List.not_mem_nil, or_false] at hf
  rcases hf with rfl | rfl | rfl | rfl | rfl | rfl | rfl | rfl
  · refine stB_num (fun i => decide (0 ≤ i)) ?_ rfl fun i => rfl
    show (match numT z with
      | none => false
      | some i => decide ((0 : Int) ≤ i) && true) = _
    cases numT z <;> simp
  · refine stB_num (fun i => decide (0 ≤ i)) ?_ rfl fun i => rfl
    show (match numT z with
      | none => false
      | some i => decide ((0 : Int) ≤ i) && true) = _
    cases numT z <;> simp
  · exact stB_num (fun i => true) rfl rfl fun i => rfl
  · refine stB_num (fun i => decide (1 ≤ i)) ?_ rfl fun i => rfl
    show (match numT z with
      | none => false
      | some i => decide ((1 : Int) ≤ i) && true) = _
    cases numT z <;> simp
  · refine stB_num (fun i => decide (1 ≤ i) && decide (i ≤ 3)) ?_ rfl fun i => rfl
    show (match numT z with
      | none => false
      | some i => decide ((1 : Int) ≤ i) && (false || decide (i ≤ 3))) = _
    cases numT z <;> simp
  · show stB "values" z none = _
    rw [stB_vals, Bool.and_true]
  · rw [noneB_thg]
    show (decide (z = "yes") || decide (z = "no")) = (!noneB (truD z) && formB "truth" (truD z))
    unfold truD
    by_cases q1 : z = "yes"
    · rw [if_pos q1, decide_eq_true q1]; rfl
    · rw [if_neg q1, decide_eq_false q1]
      by_cases q2 : z = "no"
      · rw [if_pos q2, decide_eq_true q2]; rfl
      · rw [if_neg q2, decide_eq_false q2]; rfl
  · rw [noneB_thg]
    show wordB (.str z) = (true && wordB (.str z))
    rw [Bool.true_and]
def errO {α : Type} : Except Nat α → Option Nat
  | .ok _ => none
  | .error n => some n
theorem errO_map {α β : Type} {f : α → β} {e : Except Nat α} : errO (e.map f) = errO e := by cases e <;> rfl
theorem ths_law : ∀ (fs ws : List Str) (k : Nat), (∀ f ∈ fs, f ∈ kindL) → errO (thsE fs ws k) = lawT none (fs.map kf) ws k
  | [], [], _, _ => rfl
  | [], _ :: _, _, _ => rfl
  | _ :: _, [], _, _ => rfl
  | f :: fs, w :: ws, k, h => by
    have eU : thsE (f :: fs) (w :: ws) k = if noneB (thgD f w) = true then .error k else (thsE fs ws (k + 1)).map (fun xs => thgD f w :: xs) := rfl
    have eL : lawT none ((f :: fs).map kf) (w :: ws) k = if stB (kf f) w none = true then lawT none (fs.map kf) ws (k + 1) else some k := rfl
    rw [eU, eL, stB_thg (h f List.mem_cons_self)]
    cases q : noneB (thgD f w) with
    | true => rfl
    | false =>
      rw [if_neg Bool.false_ne_true, errO_map, ths_law fs ws (k + 1) fun g hg => h g (List.mem_cons_of_mem _ hg)]
      rfl
theorem lk_none {α : Type} {w : Str} {l : List (Str × α)} (h : ∀ p ∈ l, ¬ w = p.1) : l.lookup w = none := by
  induction l with
  | nil => rfl
  | cons p l ih =>
    obtain ⟨a, b⟩ := p
    rw [List.lookup_cons]
    have e : (w == a) = false := beq_eq_false_iff_ne.mpr (h _ List.mem_cons_self)
    rw [e]
    exact ih fun q hq => h q (List.mem_cons_of_mem _ hq)
theorem LF_FT (w : Str) : LF.lookup w = (FTa.lookup w).map fun fs => fs.map kf := by
  by_cases h : w ∈ FTa.map (·.1)
  · have e : FTa.map (·.1) = [("store" : Str), "begin", "put", "turn", "strike", "done", "gone", "build", "step", "leave", "drop", "clean", "crash"] := rfl
    rw [e] at h
    simp only [List.mem_cons, List.not_mem_nil, or_false] at h
    rcases h with rfl | rfl | rfl | rfl | rfl | rfl | rfl | rfl | rfl | rfl | rfl | rfl | rfl <;> rfl
  · rw [lk_none (l := FTa) fun p hp z => h (List.mem_map.mpr ⟨p, hp, z.symm⟩)]
    refine lk_none fun p hp z => h ?_
    have go : ∀ p ∈ LF, p.1 ∈ FTa.map (·.1) := by decide +kernel
    rw [z]
    exact go p hp
theorem FTa_store : FTa.lookup ("store" : Str) = some [("columns" : Str)] := rfl
theorem FTa_other {w : Str} (h : ¬ w = "store") : FTa.lookup w = FTx.lookup w := by
  unfold FTa
  rw [List.lookup_cons, beq_eq_false_iff_ne.mpr h]
theorem FTx_store : FTx.lookup ("store" : Str) = none := rfl
theorem line_lawT (ws : List Str) : lawL true none ws = errO (lineL true ws) := by
  cases ws with
  | nil => rfl
  | cons w wt =>
    have e1 : lawL true none (w :: wt) = match LF.lookup w with
      | none => some 0
      | some fs => if (decide (w = "store") && false) = true then some 0 else lawT none fs wt 1 := rfl
    have e2 : lineL true (w :: wt) = (if ((w == ("store" : Str)) && true) = true then (thsE ["columns"] wt 1).map (fun xs => .tuple (.str w :: xs)) else match FTx.lookup w with
      | none => .error 0
      | some fs => (thsE fs wt 1).map (fun xs => .tuple (.str w :: xs))) := rfl
    rw [e1, e2, LF_FT, Bool.and_true, Bool.and_false]
    by_cases q : w = "store"
    · subst q
      rw [if_pos (beq_self_eq_true _), errO_map, FTa_store]
      exact (ths_law ["columns"] wt 1 (by decide +kernel)).symm
    · rw [if_neg (by rw [beq_eq_false_iff_ne.mpr q]; exact Bool.false_ne_true), FTa_other q]
      cases hf : FTx.lookup w with
      | none => rfl
      | some fs =>
        show lawT none (fs.map kf) wt 1 = errO ((thsE fs wt 1).map (fun xs => PyData.tuple (.str w :: xs)))
        rw [errO_map]
        exact (ths_law fs wt 1 (FTx_in hf).1).symm
theorem lawT_wd {c : Int} : ∀ (fs ws : List Str) (k : Nat), (∀ f ∈ fs, ¬ f = "values") → lawT (some c) fs ws k = lawT none fs ws k
  | [], [], _, _ => rfl
  | [], _ :: _, _, _ => rfl
  | _ :: _, [], _, _ => rfl
  | f :: fs, w :: ws, k, h => by
    have e1 : ∀ wd, lawT wd (f :: fs) (w :: ws) k = if stB f w wd = true then lawT wd fs ws (k + 1) else some k := fun _ => rfl
    have e2 : stB f w (some c) = stB f w none := by
      unfold stB
      rw [if_neg (h f List.mem_cons_self), if_neg (h f List.mem_cons_self)]
    rw [e1, e1, e2, lawT_wd fs ws (k + 1) fun g hg => h g (List.mem_cons_of_mem _ hg)]
/-- the program's answer at a row of the log: the columns asked, then the line -/
def rowO (ws : List Str) (c : Int) : Option Nat := match askE ws c with
  | some p => some p
  | none => errO (lineL false ws)
theorem stB_valsE {z : Str} {c : Int} : stB "values" z (some c) = (!noneB (thgD "values" z) && decide (((lenT (valsD z) : Nat) : Int) = c)) := stB_vals
theorem thg_vals {z : Str} : (!noneB (thgD "values" z)) = true → noneB (valsD z) = false := fun h => by
  rw [noneB_thg, Bool.and_eq_true] at h
  have e2 : rdgD "values" z = valsD z := rfl
  rw [e2] at h
  simpa using h.1
theorem row_put {c : Int} (wt : List Str) : (match askP 2 ["writer", "values"] wt c with
    | some p => some p
    | none => errO (thsE ["writer", "values"] wt 1)) = lawT (some c) ["figure", "values"] wt 1 := by
  have sw : ∀ z wd, stB "figure" z wd = !noneB (thgD "writer" z) := fun z wd => by
    have : stB "figure" z wd = stB "figure" z none := rfl
    rw [this]
    exact stB_thg (f := "writer") (by decide +kernel)
  match wt with
  | [] => rfl
  | [v1] =>
    have ea : askP 2 ["writer", "values"] [v1] c = none := by
      unfold askP
      rw [if_neg]
      rw [if_neg (by simp : ¬ 2 ≤ [v1].length)]
      show ¬ (leadsB _ _ && (false && _)) = true
      rw [Bool.false_and, Bool.and_false]
      exact Bool.false_ne_true
    rw [ea]
    show errO (if noneB (thgD "writer" v1) = true then .error 1 else (Except.error 2).map (fun xs => thgD "writer" v1 :: xs)) = if stB "figure" v1 (some c) = true then some 2 else some 1
    rw [sw]
    cases noneB (thgD "writer" v1) <;> rfl
  | v1 :: v2 :: rest =>
    have el : leadsB ["writer", "values"] ((v1 :: v2 :: rest).take (2 - 1)) = !noneB (thgD "writer" v1) := by
      show ((!noneB (thgD "writer" v1)) && true) = _
      rw [Bool.and_true]
    have ea : askP 2 ["writer", "values"] (v1 :: v2 :: rest) c = if (!noneB (thgD "writer" v1) && (!noneB (valsD v2) && !decide ((lenT (valsD v2) : Int) = c))) = true then some 2 else none := by
      unfold askP
      rw [el, if_pos (by simp : 2 ≤ (v1 :: v2 :: rest).length)]
      rfl
    have et : errO (thsE ["writer", "values"] (v1 :: v2 :: rest) 1) = if noneB (thgD "writer" v1) = true then some 1 else if noneB (thgD "values" v2) = true then some 2 else errO (thsE [] rest 3) := by
      show errO (if noneB (thgD "writer" v1) = true then .error 1 else (if noneB (thgD "values" v2) = true then .error 2 else (thsE [] rest 3).map (fun xs => thgD "values" v2 :: xs)).map (fun xs => thgD "writer" v1 :: xs)) = _
      cases noneB (thgD "writer" v1) with
      | true => rfl
      | false =>
        rw [if_neg Bool.false_ne_true, if_neg Bool.false_ne_true, errO_map]
        cases noneB (thgD "values" v2) with
        | true => rfl
        | false => rw [if_neg Bool.false_ne_true, if_neg Bool.false_ne_true, errO_map]
    have er : errO (thsE [] rest 3) = lawT (some c) [] rest 3 := by cases rest <;> rfl
    have eL : lawT (some c) ["figure", "values"] (v1 :: v2 :: rest) 1 = if (!noneB (thgD "writer" v1)) = true then (if (!noneB (thgD "values" v2) && decide (((lenT (valsD v2) : Nat) : Int) = c)) = true then lawT (some c) [] rest 3 else some 2) else some 1 := by
      show (if stB "figure" v1 (some c) = true then (if stB "values" v2 (some c) = true then lawT (some c) [] rest 3 else some 2) else some 1) = _
      rw [sw, stB_valsE]
    rw [ea, et, er, eL]
    have tv := thg_vals (z := v2)
    cases q1 : noneB (thgD "writer" v1) with
    | true => rfl
    | false =>
      cases q3 : decide (((lenT (valsD v2) : Nat) : Int) = c) with
      | true => cases q2 : noneB (thgD "values" v2) <;> cases noneB (valsD v2) <;> rfl
      | false =>
        cases q2 : noneB (thgD "values" v2) with
        | true => cases noneB (valsD v2) <;> rfl
        | false =>
          rw [q2] at tv
          rw [tv rfl]
          rfl
theorem row_turn {c : Int} (wt : List Str) : (match askP 3 ["writer", "number", "values"] wt c with
    | some p => some p
    | none => errO (thsE ["writer", "number", "values"] wt 1)) = lawT (some c) ["figure", "number", "values"] wt 1 := by
  have sw : ∀ z wd, stB "figure" z wd = !noneB (thgD "writer" z) := fun z wd => by
    have : stB "figure" z wd = stB "figure" z none := rfl
    rw [this]
    exact stB_thg (f := "writer") (by decide +kernel)
  have sn : ∀ z wd, stB "number" z wd = !noneB (thgD "number" z) := fun z wd => by
    have : stB "number" z wd = stB "number" z none := rfl
    rw [this]
    exact stB_thg (f := "number") (by decide +kernel)
  have short : ∀ wt : List Str, ¬ 3 ≤ wt.length → askP 3 ["writer", "number", "values"] wt c = none := fun wt hl => by
    unfold askP
    rw [if_neg]
    rw [if_neg hl]
    show ¬ (leadsB _ _ && (false && _)) = true
    rw [Bool.false_and, Bool.and_false]
    exact Bool.false_ne_true
  match wt with
  | [] => rfl
  | [v1] =>
    rw [short [v1] (by simp)]
    show errO (if noneB (thgD "writer" v1) = true then .error 1 else (Except.error 2).map (fun xs => thgD "writer" v1 :: xs)) = if stB "figure" v1 (some c) = true then some 2 else some 1
    rw [sw]
    cases noneB (thgD "writer" v1) <;> rfl
  | [v1, v2] =>
    rw [short [v1, v2] (by simp)]
    show errO (if noneB (thgD "writer" v1) = true then .error 1 else (if noneB (thgD "number" v2) = true then .error 2 else (Except.error 3).map (fun xs => thgD "number" v2 :: xs)).map (fun xs => thgD "writer" v1 :: xs)) = if stB "figure" v1 (some c) = true then (if stB "number" v2 (some c) = true then some 3 else some 2) else some 1
    rw [sw, sn]
    cases noneB (thgD "writer" v1) <;> cases noneB (thgD "number" v2) <;> rfl
  | v1 :: v2 :: v3 :: rest =>
    have el : leadsB ["writer", "number", "values"] ((v1 :: v2 :: v3 :: rest).take (3 - 1)) = (!noneB (thgD "writer" v1) && !noneB (thgD "number" v2)) := by
      show ((!noneB (thgD "writer" v1)) && ((!noneB (thgD "number" v2)) && true)) = _
      rw [Bool.and_true]
    have ea : askP 3 ["writer", "number", "values"] (v1 :: v2 :: v3 :: rest) c = if ((!noneB (thgD "writer" v1) && !noneB (thgD "number" v2)) && (!noneB (valsD v3) && !decide ((lenT (valsD v3) : Int) = c))) = true then some 3 else none := by
      unfold askP
      rw [el, if_pos (by simp : 3 ≤ (v1 :: v2 :: v3 :: rest).length)]
      rfl
    have et : errO (thsE ["writer", "number", "values"] (v1 :: v2 :: v3 :: rest) 1) = if noneB (thgD "writer" v1) = true then some 1 else if noneB (thgD "number" v2) = true then some 2 else if noneB (thgD "values" v3) = true then some 3 else errO (thsE [] rest 4) := by
      show errO (if noneB (thgD "writer" v1) = true then .error 1 else (if noneB (thgD "number" v2) = true then .error 2 else (if noneB (thgD "values" v3) = true then .error 3 else (thsE [] rest 4).map (fun xs => thgD "values" v3 :: xs)).map (fun xs => thgD "number" v2 :: xs)).map (fun xs => thgD "writer" v1 :: xs)) = _
      cases noneB (thgD "writer" v1) with
      | true => rfl
      | false =>
        rw [if_neg Bool.false_ne_true, if_neg Bool.false_ne_true, errO_map]
        cases noneB (thgD "number" v2) with
        | true => rfl
        | false =>
          rw [if_neg Bool.false_ne_true, if_neg Bool.false_ne_true, errO_map]
          cases noneB (thgD "values" v3) with
          | true => rfl
          | false => rw [if_neg Bool.false_ne_true, if_neg Bool.false_ne_true, errO_map]
    have er : errO (thsE [] rest 4) = lawT (some c) [] rest 4 := by cases rest <;> rfl
    have eL : lawT (some c) ["figure", "number", "values"] (v1 :: v2 :: v3 :: rest) 1 = if (!noneB (thgD "writer" v1)) = true then (if (!noneB (thgD "number" v2)) = true then (if (!noneB (thgD "values" v3) && decide (((lenT (valsD v3) : Nat) : Int) = c)) = true then lawT (some c) [] rest 4 else some 3) else some 2) else some 1 := by
      show (if stB "figure" v1 (some c) = true then (if stB "number" v2 (some c) = true then (if stB "values" v3 (some c) = true then lawT (some c) [] rest 4 else some 3) else some 2) else some 1) = _
      rw [sw, sn, stB_valsE]
    rw [ea, et, er, eL]
    have tv := thg_vals (z := v3)
    cases q1 : noneB (thgD "writer" v1) with
    | true => rfl
    | false =>
      cases q4 : noneB (thgD "number" v2) with
      | true => rfl
      | false =>
        cases q3 : decide (((lenT (valsD v3) : Nat) : Int) = c) with
        | true => cases q2 : noneB (thgD "values" v3) <;> cases noneB (valsD v3) <;> rfl
        | false =>
          cases q2 : noneB (thgD "values" v3) with
          | true => cases noneB (valsD v3) <;> rfl
          | false =>
            rw [q2] at tv
            rw [tv rfl]
            rfl
theorem row_law (ws : List Str) (c : Int) : lawL false (some c) ws = rowO ws c := by
  cases ws with
  | nil => rfl
  | cons w wt =>
    have e1 : lawL false (some c) (w :: wt) = match LF.lookup w with
      | none => some 0
      | some fs => if (decide (w = "store") && true) = true then some 0 else lawT (some c) fs wt 1 := rfl
    have e2 : lineL false (w :: wt) = (if ((w == ("store" : Str)) && false) = true then (thsE ["columns"] wt 1).map (fun xs => .tuple (.str w :: xs)) else match FTx.lookup w with
      | none => .error 0
      | some fs => (thsE fs wt 1).map (fun xs => .tuple (.str w :: xs))) := rfl
    have e3 : askE (w :: wt) c = if w = "put" then askP 2 ["writer", "values"] wt c else if w = "turn" then askP 3 ["writer", "number", "values"] wt c else none := rfl
    unfold rowO
    rw [e1, e2, e3, LF_FT, Bool.and_true, Bool.and_false, if_neg Bool.false_ne_true]
    by_cases q : w = "store"
    · subst q
      rw [FTa_store, FTx_store]
      rfl
    rw [FTa_other q, decide_eq_false q]
    by_cases q1 : w = "put"
    · subst q1
      exact (row_put wt).symm.trans (by rw [if_pos rfl]; cases askP 2 ["writer", "values"] wt c with
        | some p => rfl
        | none => exact errO_map.symm)
    rw [if_neg q1]
    by_cases q2 : w = "turn"
    · subst q2
      exact (row_turn wt).symm.trans (by rw [if_pos rfl]; cases askP 3 ["writer", "number", "values"] wt c with
        | some p => rfl
        | none => exact errO_map.symm)
    rw [if_neg q2]
    cases hf : FTx.lookup w with
    | none => rfl
    | some fs =>
      show lawT (some c) (fs.map kf) wt 1 = errO ((thsE fs wt 1).map (fun xs => PyData.tuple (.str w :: xs)))
      rw [errO_map, ths_law fs wt 1 (FTx_in hf).1]
      refine lawT_wd _ _ _ fun f hfm => ?_
      have go : ∀ p ∈ FTx, ¬ p.1 = "put" → ¬ p.1 = "turn" → ∀ f ∈ p.2.map kf, ¬ f = "values" := by decide +kernel
      exact go (w, fs) (lookup_mem hf) q1 q2 f hfm

/-! ### k86: told; a log's lines -/
def ansD : Option (Nat × Nat) → PyData
  | some p => .tuple [.int (p.1 : Nat), .int (p.2 : Nat)]
  | none => .none
def errP {α : Type} : Except (Nat × Nat) α → Option (Nat × Nat)
  | .ok _ => none
  | .error p => some p
theorem errP_map {α β : Type} {f : α → β} {e : Except (Nat × Nat) α} : errP (e.map f) = errP e := by cases e <;> rfl
def lawR (c : Int) : List Str → Nat → Option (Nat × Nat)
  | [], _ => none
  | l :: ls, i => match lawL false (some c) (Txt.split l " ") with
    | some n => some (i, n)
    | none => lawR c ls (i + 1)
def wideI : List Str → Int
  | _ :: v :: _ => (numT v).getD 0
  | _ => 0
def lawG : List Str → Option (Nat × Nat)
  | [] => some (0, 0)
  | l :: ls => if (Txt.split l " ").head? = some ("store" : Str) then match lawL true none (Txt.split l " ") with
      | some n => some (0, n)
      | none => lawR (wideI (Txt.split l " ")) ls 1
    else some (0, 0)
theorem rest_law (c : Int) : ∀ (ls : List Str) (i : Nat), lawR c ls i = errP (restE c ls i)
  | [], _ => rfl
  | l :: ls, i => by
    have e1 : lawR c (l :: ls) i = match lawL false (some c) (Txt.split l " ") with
      | some n => some (i, n)
      | none => lawR c ls (i + 1) := rfl
    have e2 : restE c (l :: ls) i = match askE (Txt.split l " ") c with
      | some p => .error (i, p)
      | none => match lineE false l with
        | .error n => .error (i, n)
        | .ok d => (restE c ls (i + 1)).map fun ds => d :: ds := rfl
    rw [e1, e2, row_law]
    unfold rowO lineE
    cases askE (Txt.split l " ") c with
    | some p => rfl
    | none =>
      cases lineL false (Txt.split l " ") with
      | error n => rfl
      | ok d =>
        show lawR c ls (i + 1) = errP ((restE c ls (i + 1)).map fun ds => d :: ds)
        rw [errP_map]
        exact rest_law c ls (i + 1)
theorem line_wide {l : Str} {d : PyData} (h0 : (Txt.split l " ").head? = some ("store" : Str)) (e : lineE true l = .ok d) : ∃ v, Txt.split l " " = [("store" : Str), v] ∧ numT v = some (colsI d) ∧ 1 ≤ colsI d ∧ colsI d ≤ 3 := by
  unfold lineE at e
  cases hs : Txt.split l " " with
  | nil => rw [hs] at h0; cases h0
  | cons w wt =>
    rw [hs] at h0 e
    have hw : w = "store" := Option.some.inj h0
    subst hw
    have eL : lineL true ("store" :: wt) = (thsE ["columns"] wt 1).map (fun xs => .tuple (.str "store" :: xs)) := rfl
    rw [eL] at e
    cases q : thsE ["columns"] wt 1 with
    | error n => rw [q] at e; cases e
    | ok xs =>
      rw [q] at e
      obtain ⟨v, c, rfl, rfl, hv, c1, c2⟩ := ths_oneV q
      have e' : (Except.ok (.tuple [.str "store", .int c]) : Except Nat PyData) = .ok d := e
      injection e' with e'
      subst e'
      exact ⟨v, rfl, hv, c1, c2⟩
theorem log_law (ls : List Str) : lawG ls = errP (logE ls) := by
  cases ls with
  | nil => rfl
  | cons l ls =>
    have e1 : lawG (l :: ls) = if (Txt.split l " ").head? = some ("store" : Str) then match lawL true none (Txt.split l " ") with
        | some n => some (0, n)
        | none => lawR (wideI (Txt.split l " ")) ls 1
      else some (0, 0) := rfl
    have e2 : logE (l :: ls) = if (Txt.split l " ").head? = some ("store" : Str) then match lineE true l with
        | .error n => .error (0, n)
        | .ok d => (restE (colsI d) ls 1).map fun ds => d :: ds
      else .error (0, 0) := rfl
    rw [e1, e2, line_lawT]
    by_cases q : (Txt.split l " ").head? = some ("store" : Str)
    · rw [if_pos q, if_pos q]
      have e3 : lineL true (Txt.split l " ") = lineE true l := rfl
      rw [e3]
      cases hE : lineE true l with
      | error n => rfl
      | ok d =>
        obtain ⟨v, hs, hv, _⟩ := line_wide q hE
        show lawR (wideI (Txt.split l " ")) ls 1 = errP ((restE (colsI d) ls 1).map fun ds => d :: ds)
        rw [errP_map, hs]
        show lawR ((numT v).getD 0) ls 1 = _
        rw [hv]
        exact rest_law _ ls 1
    · rw [if_neg q, if_neg q]
      rfl
theorem strs_shaped {ls : List Str} (h : ∀ z ∈ ls, TxOk z) : SeqAt.shaped (.list (ls.map PyData.str)) = true := by
  refine shaped_ok (n := 1) (by decide) ?_
  simp only [dOk]
  refine List.all_eq_true.mpr fun x hx => ?_
  obtain ⟨z, hz, rfl⟩ := List.mem_map.mp hx
  exact strOk_of (h z hz).2
section
variable {h : MH} {Q : DK} {E : DXK}
def toldT : Addr → DExc → DTS := fun a_ y_ => (dSeq (dAsg (dTup (dCons (dC (.str "odd")) dNil)) (.nm 2))
  (dSeq (dAsg (dIsXT kt 3 a_ y_ "LackError" ["NoPaper", "NoRow", "NoUnique", "NoUse", "NoWrite", "Ring", "Waits"]) (.nm 4))
  (dIfS (dAnd (dTest (dIsX kt 3 a_ y_ "NoText")) (dAnd (dTest (dIsX kt 3 a_ y_ "ValueError")) (dNot (dTest (dVar 4))))) (dAsg (dTup (dCons (dXf xt 3 a_ y_ "row") (dCons (dXf xt 3 a_ y_ "word") dNil))) (.nm 2)) dNext)))
theorem told_end {a : Addr} {i j : Int} {D : DEnds} {x0 x1 x2 x4 : Option SV} (k : D.nx [x0, x1, some (.d (.tuple [.int i, .int j])), some (.own a), some (.d (.bool false))] h) :
    toldT a ⟨"NoText", [("row", .int i), ("word", .int j)]⟩ D [x0, x1, x2, some (.own a), x4] h := by
  unfold toldT
  walk_at "dl"
  refine e_isXT rfl (by decide +kernel : (kt "NoText" "LackError").isSome = true) (by decide) (by decide +kernel : anyK kt "NoText" ["LackError", "NoPaper", "NoRow", "NoUnique", "NoUse", "NoWrite", "Ring", "Waits"] = some false) ?_
  walk_at "dl"
  refine e_isX rfl (by decide +kernel : kt "NoText" "NoText" = some true) ?_
  refine k_and (fun _ => ?_) fun z => by cases z
  walk_at "dl"
  refine e_isX rfl (by decide +kernel : kt "NoText" "ValueError" = some true) ?_
  refine k_and (fun _ => ?_) fun z => by cases z
  walk_at "dl"
  refine k_if (fun _ => ?_) fun z => by cases z
  walk_at "dl"
  refine e_xf rfl (by decide +kernel : xt "NoText" "row" = true) (by rfl) ?_
  walk_at "dl"
  refine e_xf rfl (by decide +kernel : xt "NoText" "word" = true) (by rfl) ?_
  walk_at "dl"
  exact k
theorem w_told_row {fa : Str → Addr} {z : Str} (hz : z.length ≤ 900000) (k : Q (.d (ansD ((errO (lineE true z)).map fun n => (0, n)))) h) : W__law_told fa [.own (fa "read_row"), .d (.str z)] h Q E := by
  refine fnW_mk rfl ?_
  unfold t__law_told
  show dSeq _ _ _ [some (.own (fa "read_row")), some (.d (.str z)), none, none, none] h
  walk_at "dl"
  refine tryAs_mk ?_
  refine e_drop (e_callV (f := "read_row") (W := W_read_row) rfl rfl ?_)
  walk_at "dl"
  refine w_read_row hz (fun x ex => ?_) fun n en => ?_
  · rw [ex] at k
    walk_at "dl"
    rw [restr_self]
    exact k
  · rw [en] at k
    refine ⟨true, (by decide +kernel : kt "NoText" "StoreError" = some true), fun _ a ha => ?_, fun z => by cases z⟩
    refine told_end ?_
    walk_at "dl"
    rw [restr_self]
    exact k
theorem w_told_log {fa : Str → Addr} {ls : List Str} (hz : ∀ z ∈ ls, z.length ≤ 900000) (hl : ls.length ≤ 100000) (k : Q (.d (ansD (errP (logE ls)))) h) : W__law_told fa [.own (fa "read_log"), .d (.list (ls.map PyData.str))] h Q E := by
  refine fnW_mk rfl ?_
  unfold t__law_told
  show dSeq _ _ _ [some (.own (fa "read_log")), some (.d (.list (ls.map PyData.str))), none, none, none] h
  walk_at "dl"
  refine tryAs_mk ?_
  refine e_drop (e_callV (f := "read_log") (W := W_read_log) rfl rfl ?_)
  walk_at "dl"
  refine w_read_log hz hl (fun x ex => ?_) fun n en => ?_
  · rw [ex] at k
    walk_at "dl"
    rw [restr_self]
    exact k
  · rw [en] at k
    refine ⟨true, (by decide +kernel : kt "NoText" "StoreError" = some true), fun _ a ha => ?_, fun z => by cases z⟩
    refine told_end ?_
    walk_at "dl"
    rw [restr_self]
    exact k
theorem w_log_amiss {ls : List Str} (hz : ∀ z ∈ ls, TxOk z) (hl : ls.length ≤ 100000) (k : Q (.d (ansD (lawG ls))) h) : W__law_log_amiss [.d (.list (ls.map PyData.str))] h Q E := by
  refine fnW_mk rfl ?_
  unfold t__law_log_amiss
  show dSeq _ _ _ [some (.d (.list (ls.map PyData.str))), none, none, none, none] h
  walk_at "dl"
  refine r_eq rfl rfl (strs_shaped hz) nil_shaped ?_
  rw [eqv_nil]
  walk_at "dl"
  cases ls with
  | nil =>
    refine k_or (fun _ => ?_) fun z => by cases z
    refine k_if (fun _ => ?_) fun z => by cases z
    walk_at "dl"
    rw [restr_self]
    exact k
  | cons l0 lr =>
  have h0 := hz l0 List.mem_cons_self
  have h01 := h0.1
  obtain ⟨w, wt, hs⟩ := split_ne (x := l0) (y := " ") (by rw [blank_is]; simp) (by decide +kernel)
  have eG : lawG (l0 :: lr) = if (Txt.split l0 " ").head? = some ("store" : Str) then match lawL true none (Txt.split l0 " ") with
      | some n => some (0, n)
      | none => lawR (wideI (Txt.split l0 " ")) lr 1
    else some (0, 0) := rfl
  refine k_or (fun z => by cases z) fun _ => ?_
  walk_at "dl"
  refine e_split ?_
  walk_at "dl"
  refine r_ixL (d := .str l0) at0 ?_
  refine k_split1 ?_
  walk_at "dl"
  refine k_split (by decide +kernel) (by omega) ?_
  rw [hs]
  walk_at "dl"
  refine r_ixL (d := .str w) at0 ?_
  walk_at "dl"
  by_cases q : w = "store"
  case' neg =>
    have nq : ¬ (Txt.split l0 " ").head? = some ("store" : Str) := fun z => by rw [hs] at z; exact q (Option.some.inj z)
    rw [eG, if_neg nq] at k
    refine k_if (fun _ => ?_) fun z => absurd (by simpa using z) q
    walk_at "dl"
    rw [restr_self]
    exact k
  have yq : (Txt.split l0 " ").head? = some ("store" : Str) := by rw [hs, q]; rfl
  rw [if_pos yq] at eG
  refine k_if (fun z => absurd q (by simpa using z)) fun _ => ?_
  refine e_next ?_
  dsimp only
  walk_at "dl"
  obtain ⟨ls, els⟩ : ∃ ls, ls = l0 :: lr := ⟨_, rfl⟩
  rw [← els] at hz hl k eG ⊢
  walk_at "dl"
  try simp only [List.set_cons_succ, List.set_cons_zero]
  refine for_inv (fun r σ h' => ∃ (i : Nat) (x1 x2 x3 x4 : Option SV), r = (enumD (ls.map PyData.str)).drop i ∧ i ≤ ls.length ∧ h' = h ∧
      ((i = 0 ∧ x1 = some (.d .none)) ∨ (1 ≤ i ∧ ∃ c : Int, x1 = some (.d (.int c)) ∧ lawG ls = lawR c (ls.drop i) i)) ∧
      σ = [some (.d (.list (ls.map PyData.str))), x1, x2, x3, x4]) ?_ ?_ _ _ _
    ⟨0, _, none, none, none, rfl, Nat.zero_le _, rfl, .inl ⟨rfl, rfl⟩, rfl⟩
  · rintro d r σ h1 KK ⟨i, x1, x2, x3, x4, er, hi, rfl, hcase, rfl⟩ hK
    obtain ⟨x, e1, rfl, rfl⟩ := enum_at er
    rw [List.getElem?_map] at e1
    obtain ⟨l, ef, rfl⟩ := Option.map_eq_some_iff.mp e1
    have hil : i < ls.length := (List.getElem?_eq_some_iff.mp ef).1
    have eld : ls.drop i = l :: ls.drop (i + 1) := by
      rw [List.drop_eq_getElem_cons hil]
      rw [List.getElem?_eq_getElem hil] at ef
      rw [Option.some.inj ef]
    have hlm : l ∈ ls := List.mem_of_getElem? ef
    have hlz := hz l hlm
    have hlz1 := hlz.1
    refine ⟨_, bind2, ?_⟩
    try simp only [List.set_cons_succ, List.set_cons_zero]
    rcases hcase with ⟨rfl, rfl⟩ | ⟨hi1, c, rfl, eT⟩
    · have el : l = l0 := by
        rw [els] at ef
        exact (Option.some.inj ef).symm
      subst el
      walk_at "dl"
      refine w_amiss (can := true) (wd := none) hlz ?_
      walk_at "dl"
      cases hA : lawL true none (Txt.split l " ") with
      | some n =>
        rw [hA] at eG
        have eG' : lawG ls = some (0, n) := eG
        rw [eG'] at k
        refine k_if (fun _ => ?_) fun z => by cases z
        walk_at "dl"
        rw [restr_self]
        exact k
      | none =>
        rw [hA] at eG
        have eG' : lawG ls = lawR (wideI (Txt.split l " ")) lr 1 := eG
        refine k_if (fun z => by cases z) fun _ => ?_
        refine e_next ?_
        dsimp only
        walk_at "dl"
        refine k_if (fun _ => ?_) fun z => by cases z
        obtain ⟨d, hE⟩ : ∃ d, lineE true l = .ok d := by
          rw [line_lawT] at hA
          have e3 : lineL true (Txt.split l " ") = lineE true l := rfl
          rw [e3] at hA
          cases hE : lineE true l with
          | error n => rw [hE] at hA; cases hA
          | ok d => exact ⟨d, rfl⟩
        obtain ⟨v, hs2, hv, c1, c2⟩ := line_wide yq hE
        obtain ⟨t1, t2⟩ := num_text hv c1
        walk_at "dl"
        refine e_split ?_
        walk_at "dl"
        refine k_split1 ?_
        walk_at "dl"
        refine k_split (by decide +kernel) (by omega) ?_
        rw [hs2]
        walk_at "dl"
        refine b_intTx t1 t2 ?_
        walk_at "dl"
        refine hK _ _ ⟨1, _, _, _, _, rfl, hil, rfl, .inr ⟨Nat.le_refl _, colsI d, rfl, ?_⟩, rfl⟩
        have e4 : ls.drop 1 = lr := by rw [els]; rfl
        rw [eG', e4, hs2]
        show lawR ((numT v).getD 0) lr 1 = _
        rw [hv]
        rfl
    · have i0 : ((i : Nat) : Int) ≠ 0 := by omega
      have i1 : decide (((i : Nat) : Int) = 0) = false := decide_eq_false i0
      have eR : lawR c (l :: ls.drop (i + 1)) i = match lawL false (some c) (Txt.split l " ") with
        | some n => some (i, n)
        | none => lawR c (ls.drop (i + 1)) (i + 1) := rfl
      rw [eld, eR] at eT
      walk_at "dl"
      rw [i1]
      refine w_amiss (can := false) (wd := some c) hlz ?_
      walk_at "dl"
      cases hA : lawL false (some c) (Txt.split l " ") with
      | some n =>
        rw [hA] at eT
        have eT' : lawG ls = some (i, n) := eT
        rw [eT'] at k
        refine k_if (fun _ => ?_) fun z => by cases z
        walk_at "dl"
        rw [restr_self]
        exact k
      | none =>
        rw [hA] at eT
        have eT' : lawG ls = lawR c (ls.drop (i + 1)) (i + 1) := eT
        refine k_if (fun z => by cases z) fun _ => ?_
        refine e_next ?_
        dsimp only
        walk_at "dl"
        rw [i1]
        refine k_if (fun z => by cases z) fun _ => ?_
        refine e_next ?_
        dsimp only
        exact hK _ _ ⟨i + 1, _, _, _, _, rfl, hil, rfl, .inr ⟨by omega, c, rfl, eT'⟩, rfl⟩
  · rintro σ h1 ⟨i, x1, x2, x3, x4, er, hi, rfl, hcase, rfl⟩
    have hi2 : i = ls.length := by
      have z := congrArg List.length er
      rw [List.length_drop, enumD_len, List.length_map, List.length_nil] at z
      omega
    have edr : ls.drop i = [] := List.drop_of_length_le (by omega)
    have hpos : 1 ≤ i := by rw [hi2, els, List.length_cons]; omega
    rcases hcase with ⟨q0, _⟩ | ⟨_, c, rfl, eT⟩
    · omega
    rw [edr] at eT
    have eT' : lawG ls = none := eT
    rw [eT'] at k
    walk_at "dl"
    rw [restr_self]
    exact k
end

/-! ### k86: lines spoilt -/
def ChOk (z : Str) : Prop := ∀ c ∈ z.cps.toList, c < 1114112
theorem app_cps (x y : Str) : (x ++ y).cps.toList = x.cps.toList ++ y.cps.toList := TL.tl_append x y
theorem app_len (x y : Str) : (x ++ y).length = x.length + y.length := by
  rw [← len_cps, app_cps, List.length_append, len_cps, len_cps]
theorem ChOk.app {x y : Str} (hx : ChOk x) (hy : ChOk y) : ChOk (x ++ y) := fun c hc => by
  rw [app_cps] at hc
  rcases List.mem_append.mp hc with q | q
  · exact hx c q
  · exact hy c q
theorem ChOk.cut {x : Str} (hx : ChOk x) (lo hi : Option Int) : ChOk (cutS x lo hi) := fun c hc => by
  have e : (cutS x lo hi).cps.toList = (x.cps.toList.drop (HT.sIx x.length 0 lo)).take (HT.sIx x.length x.length hi - HT.sIx x.length 0 lo) := rfl
  rw [e] at hc
  exact hx c (List.mem_of_mem_drop (List.mem_of_mem_take hc))
theorem ChOk.join {ys : List Str} (h : ∀ y ∈ ys, ChOk y) : ChOk (Txt.join " " ys) := fun c hc => by
  have e : (Txt.join " " ys).cps.toList = TL.joinL (TL.tl " ") (ys.map TL.tl) := by
    rw [← TL.tl_join, ← TL.join_eq]
  rw [e] at hc
  rcases joinL_mem hc with q | ⟨p, hp, q⟩
  · rw [blank_tl] at q
    rw [List.mem_singleton.mp q]
    decide
  · obtain ⟨y, hy, rfl⟩ := List.mem_map.mp hp
    exact h y hy c q
theorem split_sum {x y : Str} {s : Nat} {S : List Nat} (ey : y.cps.toList = s :: S) (hk : y.cps.all (· < 256) = true) : ((Txt.split x y).map fun z : Str => z.length).sum + (Txt.split x y).length ≤ x.length + 1 := by
  have go : ∀ (l acc : List Nat) (k : Nat), ((TL.spl (s :: S) k acc l).map List.length).sum + (TL.spl (s :: S) k acc l).length ≤ acc.length + l.length + 1 := by
    intro l
    induction l with
    | nil =>
      intro acc k
      rw [TL.spl_nil]
      simp
    | cons c r ih =>
      intro acc k
      cases k with
      | succ k =>
        have z := ih acc k
        rw [List.length_cons]
        exact Nat.le_trans z (by omega)
      | zero =>
        cases hp : TL.pre (s :: S) (c :: r) with
        | true =>
          have z := ih [] ((s :: S).length - 1)
          rw [TL.spl_hit hp]
          have e1 : (c :: r).length = r.length + 1 := List.length_cons
          rw [List.map_cons, List.sum_cons, e1]
          show _ + ((TL.spl (s :: S) ((s :: S).length - 1) [] r).length + 1) ≤ _
          rw [List.length_nil] at z
          omega
        | false =>
          rw [TL.spl_miss hp]
          have z := ih (acc ++ [c]) 0
          rw [List.length_append, List.length_singleton] at z
          rw [List.length_cons]
          omega
  have e := TL.split_spl x y (by show y.cps.toList ≠ []; rw [ey]; simp) (TL.kind_ok hk)
  have g := go x.cps.toList [] 0
  have e2 : (Txt.split x y).map TL.tl = TL.spl (s :: S) 0 [] x.cps.toList := by
    have z2 : (Txt.split x y).map TL.tl = TL.spl y.cps.toList 0 [] x.cps.toList := e
    rwa [ey] at z2
  rw [← e2, List.map_map, List.length_map, len_cps, List.length_nil] at g
  have e4 : (Txt.split x y).map (List.length ∘ TL.tl) = (Txt.split x y).map fun z : Str => z.length := List.map_congr_left fun y _ => len_cps y
  rw [e4] at g
  omega
def SL : List Str := ["", "-", "0", "1", "00", "-0", "-1", "7", "1,2", "1,2,3", "1,2,3,4", "a", "a,b", "yes", "no", "store", "put", "begin", "crash", "Ab", "abcdefghi", "999999999", "1000000000", "-999999999", "1,", ",", "None", "4"]
theorem SL_ok : ∀ z ∈ SL, z.length ≤ 10 ∧ ∀ c ∈ z.cps.toList, c < 1114112 := by decide +kernel
theorem cut_take {xs : List PyData} {n : Nat} (hn : n ≤ xs.length) : cutD xs none (some (n : Nat)) = xs.take n := by
  unfold cutD
  rw [HT.sIx_none, show HT.sIx xs.length xs.length (some (n : Nat)) = min n xs.length from HT.sIx_nat _ _ n, List.drop_zero, Nat.sub_zero, Nat.min_eq_left hn]
theorem cut_drop {xs : List PyData} {n : Nat} (hn : n ≤ xs.length) : cutD xs (some (n : Nat)) none = xs.drop n := by
  unfold cutD
  rw [HT.sIx_none, show HT.sIx xs.length 0 (some (n : Nat)) = min n xs.length from HT.sIx_nat _ _ n, Nat.min_eq_left hn]
  exact List.take_of_length_le (by rw [List.length_drop]; omega)
theorem nat0_of {i : Int} (h : 0 ≤ i) : ∃ n : Nat, i = (n : Int) := ⟨i.toNat, by omega⟩
section
variable {h : MH} {Q : DK} {E : DXK} {sc : List Int} {a : Addr} {o : MO} {C : Int}
theorem w_spoilt {z : Str} (ha : h a = some o) (F : Fd sc C o) (hs : sc.length ≤ 63) (hC : C + 20 ≤ 10 ^ 12) (hz : z.length ≤ 100000) (hc : ChOk z)
    (k : ∀ z' o', z'.length ≤ 2 * z.length + 40 → ChOk z' → Fd sc (C + 6) o' → Q (.d (.str z')) (mput h a o')) : W__law_spoilt [.own a, .d (.str z)] h Q E := by
  have hsome := fd_some ha
  refine fnW_mk rfl ?_
  unfold t__law_spoilt
  show dSeq _ _ _ [some (.own a), some (.d (.str z)), none, none, none, none, none, none, none, none] h
  walk_at "dl"
  refine r_addL (by simp) ?_
  walk_at "dl"
  refine r_addL (by simp) ?_
  walk_at "dl"
  refine e_split ?_
  walk_at "dl"
  refine k_split1 ?_
  walk_at "dl"
  refine k_split (by decide +kernel) (by omega) ?_
  obtain ⟨ws, hws⟩ : ∃ ws, ws = Txt.split z " " := ⟨_, rfl⟩
  have hsum := split_sum (x := z) blank_is (by decide +kernel)
  have hch : ∀ y ∈ ws, ChOk y := fun y hy c hcc => hc c (mul_chars blank_is (by decide +kernel) (by rw [← hws]; exact hy) c hcc)
  have hne : 1 ≤ ws.length := by
    obtain ⟨w, wt, e⟩ := split_ne (x := z) (y := " ") (by rw [blank_is]; simp) (by decide +kernel)
    rw [hws, e, List.length_cons]
    omega
  rw [← hws] at hsum ⊢
  walk_at "dl"
  rw [List.length_map]
  refine w_drawS ha F hs (by omega) ⟨by omega, by omega⟩ fun p o1 p0 p1 F1 => ?_
  walk_at "dl"
  refine w_drawS put_same F1 hs (by omega) ⟨by decide, by decide⟩ fun u o2 u0 u1 F2 => ?_
  rw [put_put]
  obtain ⟨un, rfl⟩ := nat0_of u0
  have hun : un < SL.length := by
    have : SL.length = 28 := rfl
    have u1' : ((un : Nat) : Int) < 28 := u1
    omega
  obtain ⟨oth, hoth⟩ : ∃ s, s = SL[un] := ⟨_, rfl⟩
  have oo := SL_ok oth (by rw [hoth]; exact List.getElem_mem hun)
  refine r_ixL (xs := SL.map PyData.str) (d := .str oth) (at_nat (by rw [List.getElem?_map, List.getElem?_eq_getElem hun, ← hoth]; rfl)) ?_
  walk_at "dl"
  refine w_drawS put_same F2 hs (by omega) ⟨by decide, by decide⟩ fun y o3 y0 y1 F3 => ?_
  rw [put_put]
  walk_at "dl"
  try simp only [List.set_cons_succ, List.set_cons_zero]
  obtain ⟨pn, rfl⟩ := nat0_of p0
  have hpn : pn < ws.length := by omega
  obtain ⟨wd, hwd⟩ : ∃ s, s = ws[pn] := ⟨_, rfl⟩
  have ewd : (ws.map PyData.str)[pn]? = some (.str wd) := by rw [List.getElem?_map, List.getElem?_eq_getElem hpn, ← hwd]; rfl
  have ewsp : ws = ws.take pn ++ wd :: ws.drop (pn + 1) := by
    rw [hwd]
    conv => lhs; rw [← List.take_append_drop pn ws, List.drop_eq_getElem_cons hpn]
  have wdok : ChOk wd := hch wd (by rw [hwd]; exact List.getElem_mem hpn)
  refine k_if (fun q => ?_) fun q => ?_
  · have q' := of_decide_eq_true q
    walk_at "dl"
    refine r_ixL (d := .str wd) (at_nat ewd) ?_
    walk_at "dl"
    refine r_mulL (by simp) ?_
    walk_at "dl"
    refine r_ixL (d := .str wd) (at_nat ewd) ?_
    walk_at "dl"
    obtain ⟨pi, hpi, hps, hpc, hpl⟩ : ∃ pi : List Str, atI [PyData.list [], .list (List.replicate (2 : Int).toNat [PyData.str wd]).flatten, .list [.str oth], .list [.str oth, .str wd]] y = some (.list (pi.map PyData.str)) ∧ (pi.map fun s : Str => s.length).sum ≤ 2 * wd.length + 10 ∧ (∀ s ∈ pi, ChOk s) ∧ pi.length ≤ 2 := by
      have four : y = 0 ∨ y = 1 ∨ y = 2 ∨ y = 3 := by omega
      rcases four with z | z | z | z <;> rw [z]
      · exact ⟨[], rfl, by simp, fun s hs => (by cases hs), by simp⟩
      · exact ⟨[wd, wd], rfl, by simp; omega, fun s hs => by
          rcases List.mem_cons.mp hs with rfl | hs
          · exact wdok
          · rw [List.mem_singleton.mp hs]; exact wdok, by simp⟩
      · exact ⟨[oth], rfl, by simp; omega, fun s hs => by rw [List.mem_singleton.mp hs]; exact oo.2, by simp⟩
      · exact ⟨[oth, wd], rfl, by simp; omega, fun s hs => by
          rcases List.mem_cons.mp hs with rfl | hs
          · exact oo.2
          · rw [List.mem_singleton.mp hs]; exact wdok, by simp⟩
    refine r_ixL hpi ?_
    walk_at "dl"
    refine e_join2 ?_
    walk_at "dl"
    refine k_join1 ?_
    walk_at "dl"
    rw [cut_take (by rw [List.length_map]; omega)]
    refine r_addL (by rw [List.length_take, List.length_map, List.length_map]; omega) ?_
    walk_at "dl"
    have e1 : ((pn : Nat) : Int) + 1 = ((pn + 1 : Nat) : Int) := by omega
    rw [e1, cut_drop (by rw [List.length_map]; omega)]
    refine r_addL (by rw [List.length_append, List.length_take, List.length_map, List.length_map, List.length_drop, List.length_map]; omega) ?_
    have ey : List.take pn (ws.map PyData.str) ++ pi.map PyData.str ++ List.drop (pn + 1) (ws.map PyData.str) = (ws.take pn ++ pi ++ ws.drop (pn + 1)).map PyData.str := by
      rw [List.map_append, List.map_append, List.map_take, List.map_drop]
    rw [ey]
    have hsw : ((ws.take pn).map fun s : Str => s.length).sum + (wd.length + ((ws.drop (pn + 1)).map fun s : Str => s.length).sum) = (ws.map fun s : Str => s.length).sum := by
      conv => rhs; rw [ewsp]
      rw [List.map_append, List.sum_append, List.map_cons, List.sum_cons]
    have hlw : (ws.take pn ++ pi ++ ws.drop (pn + 1)).length + 1 ≤ ws.length + 2 := by
      rw [List.length_append, List.length_append, List.length_take, List.length_drop]
      omega
    have hsy : ((ws.take pn ++ pi ++ ws.drop (pn + 1)).map fun s : Str => s.length).sum ≤ (ws.map fun s : Str => s.length).sum + wd.length + 10 := by
      rw [List.map_append, List.map_append, List.sum_append, List.sum_append]
      omega
    have hwl : wd.length ≤ z.length := mul_parts blank_is (by decide +kernel) (by rw [← hws, hwd]; exact List.getElem_mem hpn)
    have hb : ((" " : Str)).length = 1 := by decide +kernel
    refine k_join2 (by rw [hb]; omega) ?_
    walk_at "dl"
    rw [restr_putd hsome, restr_self]
    refine k _ _ ?_ (ChOk.join fun y hy => ?_) (F3.up (by omega))
    · have j := join_len " " (ws.take pn ++ pi ++ ws.drop (pn + 1))
      rw [hb] at j
      omega
    · rcases List.mem_append.mp hy with q | q
      · rcases List.mem_append.mp q with q | q
        · exact hch y (List.mem_of_mem_take q)
        · exact hpc y q
      · exact hch y (List.mem_of_mem_drop q)
  refine e_next ?_
  dsimp only
  walk_at "dl"
  refine k_if (fun q2 => ?_) fun q2 => ?_
  · walk_at "dl"
    have hb : ((" " : Str)).length = 1 := by decide +kernel
    refine r_addTx (by rw [hb]; omega) ?_
    walk_at "dl"
    rw [restr_putd hsome, restr_self]
    refine k _ _ (by rw [app_len, hb]; omega) (ChOk.app hc fun c hcc => ?_) (F3.up (by omega))
    rw [blank_is] at hcc
    rw [List.mem_singleton.mp hcc]
    decide
  refine e_next ?_
  dsimp only
  have q' := of_decide_eq_false q
  have q2' := of_decide_eq_false q2
  walk_at "dl"
  refine b_lenTx (by omega) ?_
  walk_at "dl"
  refine w_drawS put_same F3 hs (by omega) ⟨by omega, by omega⟩ fun s o4 s0 s1 F4 => ?_
  rw [put_put]
  walk_at "dl"
  refine w_drawS put_same F4 hs (by omega) ⟨by decide, by decide⟩ fun v o5 v0 v1 F5 => ?_
  rw [put_put]
  obtain ⟨vn, rfl⟩ := nat0_of v0
  have eS : ("a01 -,.9" : Str).cps.toList = [97, 48, 49, 32, 45, 44, 46, 57] := by decide +kernel
  obtain ⟨cc, hcc, hcl⟩ : ∃ c, [97, 48, 49, 32, 45, 44, 46, 57][vn]? = some c ∧ c < 1114112 := by
    have hv : vn < 8 := by omega
    have hvl : vn < [97, 48, 49, 32, 45, 44, 46, 57].length := hv
    refine ⟨_, List.getElem?_eq_getElem hvl, ?_⟩
    have go : ∀ c ∈ [97, 48, 49, 32, 45, 44, 46, 57], c < 1114112 := by decide
    exact go _ (List.getElem_mem hvl)
  refine r_ixTx (c := cc) (by
    rw [eS]
    unfold atI ixN
    rw [if_pos (by omega), if_pos (by have : vn < 8 := by omega
                                      show ((vn : Nat) : Int) < ((8 : Nat) : Int)
                                      omega)]
    exact hcc) (by decide +kernel) ?_
  walk_at "dl"
  refine r_slTx (by omega) ?_
  walk_at "dl"
  obtain ⟨mid, hm, hml, hmc⟩ : ∃ m : Str, atI [PyData.str ⟨#[cc]⟩, .str "", .str ⟨#[cc]⟩] (y - 5) = some (.str m) ∧ m.length ≤ 1 ∧ ChOk m := by
    have cok : ChOk ⟨#[cc]⟩ := fun d hd => by
      have : d = cc := by simpa using hd
      rw [this]
      exact hcl
    have three : y - 5 = 0 ∨ y - 5 = 1 ∨ y - 5 = 2 := by omega
    rcases three with z | z | z <;> rw [z]
    · exact ⟨_, rfl, Nat.le_refl _, cok⟩
    · exact ⟨"", rfl, by decide +kernel, fun d hd => by
        have e : ("" : Str).cps.toList = [] := by decide +kernel
        rw [e] at hd
        cases hd⟩
    · exact ⟨_, rfl, Nat.le_refl _, cok⟩
  refine r_ixL hm ?_
  have l1 := cutS_length z none (some s)
  refine r_addTx (by omega) ?_
  walk_at "dl"
  refine r_slTx (by omega) ?_
  refine r_addTx (by rw [app_len]; exact Nat.le_trans (Nat.add_le_add (Nat.add_le_add l1 hml) (cutS_length z _ _)) (by omega)) ?_
  walk_at "dl"
  rw [restr_putd hsome, restr_self]
  exact k _ _ (by rw [app_len, app_len]; exact Nat.le_trans (Nat.add_le_add (Nat.add_le_add l1 hml) (cutS_length z _ _)) (by omega)) (((hc.cut _ _).app hmc).app (hc.cut _ _)) (F5.up (by omega))
theorem w_lines_spoilt {ls : List Str} {L : Nat} (ha : h a = some o) (F : Fd sc C o) (hs : sc.length ≤ 63) (hC : C + 40 ≤ 10 ^ 12) (hL : L ≤ 100000) (h1 : 1 ≤ ls.length) (hl : ls.length ≤ 100) (hz : ∀ z ∈ ls, z.length ≤ L ∧ ChOk z)
    (k : ∀ (ls' : List Str) o', ls'.length ≤ 101 → (∀ z ∈ ls', z.length ≤ 2 * L + 40 ∧ ChOk z) → Fd sc (C + 10) o' → Q (.d (.list (ls'.map PyData.str))) (mput h a o')) : W__law_lines_spoilt [.own a, .d (.list (ls.map PyData.str))] h Q E := by
  have hsome := fd_some ha
  have up : ∀ z ∈ ls, z.length ≤ 2 * L + 40 ∧ ChOk z := fun z hz' => ⟨by have := (hz z hz').1; omega, (hz z hz').2⟩
  refine fnW_mk rfl ?_
  unfold t__law_lines_spoilt
  show dSeq _ _ _ [some (.own a), some (.d (.list (ls.map PyData.str))), none, none, none] h
  walk_at "dl"
  rw [List.length_map]
  refine w_drawS ha F hs (by omega) ⟨by omega, by omega⟩ fun p o1 p0 p1 F1 => ?_
  walk_at "dl"
  rw [List.length_map]
  refine w_drawS put_same F1 hs (by omega) ⟨by omega, by omega⟩ fun t o2 t0 t1 F2 => ?_
  rw [put_put]
  walk_at "dl"
  refine w_drawS put_same F2 hs (by omega) ⟨by decide, by decide⟩ fun y o3 y0 y1 F3 => ?_
  rw [put_put]
  walk_at "dl"
  try simp only [List.set_cons_succ, List.set_cons_zero]
  obtain ⟨pn, rfl⟩ := nat0_of p0
  obtain ⟨tn, rfl⟩ := nat0_of t0
  have hpn : pn < ls.length := by omega
  have htn : tn < ls.length := by omega
  have ep : (ls.map PyData.str)[pn]? = some (.str ls[pn]) := by rw [List.getElem?_map, List.getElem?_eq_getElem hpn]; rfl
  have et : (ls.map PyData.str)[tn]? = some (.str ls[tn]) := by rw [List.getElem?_map, List.getElem?_eq_getElem htn]; rfl
  have e1 : ((pn : Nat) : Int) + 1 = ((pn + 1 : Nat) : Int) := by omega
  have ct : cutD (ls.map PyData.str) none (some (pn : Nat)) = (ls.take pn).map PyData.str := by rw [cut_take (by rw [List.length_map]; omega), List.map_take]
  have cd : cutD (ls.map PyData.str) (some ((pn + 1 : Nat) : Int)) none = (ls.drop (pn + 1)).map PyData.str := by rw [cut_drop (by rw [List.length_map]; omega), List.map_drop]
  have lt : ((ls.take pn).map PyData.str).length ≤ 100 := by rw [List.length_map, List.length_take]; omega
  have ld : ((ls.drop (pn + 1)).map PyData.str).length ≤ 100 := by rw [List.length_map, List.length_drop]; omega
  refine k_if (fun q => ?_) fun q => ?_
  · have q' := of_decide_eq_true q
    walk_at "dl"
    rw [ct, e1, cd]
    refine r_addL (by omega) ?_
    walk_at "dl"
    refine r_ixL (d := .str ls[pn]) (at_nat ep) ?_
    walk_at "dl"
    refine r_addL (by rw [List.length_map]; simp; omega) ?_
    walk_at "dl"
    refine r_ixL (d := .str ls[tn]) (at_nat et) ?_
    walk_at "dl"
    rw [ct]
    refine r_addL (by simp; omega) ?_
    walk_at "dl"
    rw [e1, cd]
    refine r_addL (by rw [List.length_append]; simp; omega) ?_
    walk_at "dl"
    have three : y = 0 ∨ y = 1 ∨ y = 2 := by omega
    rcases three with z | z | z <;> rw [z]
    · refine r_ixL (d := .list ((ls.take pn ++ ls.drop (pn + 1)).map PyData.str)) (by rw [List.map_append]; rfl) ?_
      walk_at "dl"
      rw [restr_putd hsome, restr_self]
      refine k _ _ (by rw [List.length_append, List.length_take, List.length_drop]; omega) (fun z hz' => ?_) (F3.up (by omega))
      rcases List.mem_append.mp hz' with g | g
      · exact up z (List.mem_of_mem_take g)
      · exact up z (List.mem_of_mem_drop g)
    · refine r_ixL (d := .list ((ls ++ [ls[pn]]).map PyData.str)) (by rw [List.map_append]; rfl) ?_
      walk_at "dl"
      rw [restr_putd hsome, restr_self]
      refine k _ _ (by rw [List.length_append]; simp; omega) (fun z hz' => ?_) (F3.up (by omega))
      rcases List.mem_append.mp hz' with g | g
      · exact up z g
      · rw [List.mem_singleton.mp g]
        exact up _ (List.getElem_mem hpn)
    · refine r_ixL (d := .list ((ls.take pn ++ [ls[tn]] ++ ls.drop (pn + 1)).map PyData.str)) (by rw [List.map_append, List.map_append]; rfl) ?_
      walk_at "dl"
      rw [restr_putd hsome, restr_self]
      refine k _ _ (by rw [List.length_append, List.length_append, List.length_take, List.length_drop]; simp; omega) (fun z hz' => ?_) (F3.up (by omega))
      rcases List.mem_append.mp hz' with g | g
      · rcases List.mem_append.mp g with g | g
        · exact up z (List.mem_of_mem_take g)
        · rw [List.mem_singleton.mp g]
          exact up _ (List.getElem_mem htn)
      · exact up z (List.mem_of_mem_drop g)
  refine e_next ?_
  dsimp only
  walk_at "dl"
  rw [ct]
  refine r_ixL (d := .str ls[pn]) (at_nat ep) ?_
  walk_at "dl"
  have z1 := hz _ (List.getElem_mem hpn)
  refine w_spoilt put_same F3 hs (by omega) (Nat.le_trans z1.1 hL) z1.2 fun z' o4 l4 c4 F4 => ?_
  rw [put_put]
  walk_at "dl"
  refine r_addL (by simp; omega) ?_
  walk_at "dl"
  rw [e1, cd]
  refine r_addL (by rw [List.length_append]; simp; omega) ?_
  have eA : (ls.take pn).map PyData.str ++ [PyData.str z'] ++ (ls.drop (pn + 1)).map PyData.str = (ls.take pn ++ [z'] ++ ls.drop (pn + 1)).map PyData.str := by
    rw [List.map_append, List.map_append]
    rfl
  rw [eA]
  walk_at "dl"
  rw [restr_putd hsome, restr_self]
  refine k _ _ (by rw [List.length_append, List.length_append, List.length_take, List.length_drop]; simp; omega) (fun z hz' => ?_) (F4.up (by omega))
  rcases List.mem_append.mp hz' with g | g
  · rcases List.mem_append.mp g with g | g
    · exact up z (List.mem_of_mem_take g)
    · rw [List.mem_singleton.mp g]
      exact ⟨by have := z1.1; omega, c4⟩
  · exact up z (List.mem_of_mem_drop g)
end

/-! ### k86: the law -/
def lap86 (fa_ : Str → Addr) : DTS := (dSeq (dAsg (dCall noX W__law_amiss (dCons (dVar 9) (dCons (dC (.bool true)) (dCons (dC .none) dNil)))) (.nm 12))
  (dSeq (dIfS (dTest (dOp rdNe (dB rdRepr (dCons (dCall noX (W__law_told fa_) (dCons (dFn fa_ "read_row") (dCons (dVar 9) dNil))) dNil)) (dB rdRepr (dCons (dIf (dTest (dOp rdIsN (dVar 12) (dC .none))) (dC .none) (dTup (dCons (dC (.int 0)) (dCons (dVar 12) dNil)))) dNil)))) (dRet (dC (.bool false))) dNext)
  (dAsg (dCall noX W__law_spoilt (dCons (dVar 1) (dCons (dVar 9) dNil))) (.nm 9))))
def rest86b (fa_ : Str → Addr) : DTS := (dSeq (dAsg (dOp rdAdd (dL (fLst (dCons (dOp rdAdd (dC (.str "store ")) (dB rdStrA (dCons (dOp rdAdd (dC (.int 1)) (dOp rdMod (dVar 7) (dC (.int 3)))) dNil))) dNil))) (dSl (dVar 3) (dPart (dC (.int 1))) dNoPart)) (.nm 5))
  (dSeq (dFor (wSeq (dOp rdAdd (dL (fLst (dCons (dL (fLst dNil)) (dCons (dVar 3) (dCons (dSl (dVar 3) (dPart (dC (.int 1))) dNoPart) (dCons (dOp rdAdd (dVar 3) (dSl (dVar 3) dNoPart (dPart (dC (.int 1))))) (dCons (dVar 5) dNil))))))) (dL (fLc (wRg1 (dC (.int 14))) (.nm 13) dYes (dCall noX W__law_lines_spoilt (dCons (dVar 1) (dCons (dVar 3) dNil))) [13])))) (.nm 6) (dSeq (dAsg (dL (fB rfList (dCons (dVar 6) dNil))) (.nm 11))
  (dIfS (dOr (dTest (dOp rdNe (dB rdRepr (dCons (dCall noX (W__law_told fa_) (dCons (dFn fa_ "read_log") (dCons (dVar 6) dNil))) dNil)) (dB rdRepr (dCons (dCall noX W__law_log_amiss (dCons (dVar 6) dNil)) dNil)))) (dTest (dOp rdNe (dVar 6) (dVar 11)))) (dRet (dC (.bool false))) dNext)))
  (dRet (dC (.bool true)))))
def rest86a (fa_ : Str → Addr) : DTS := (dSeq (dFor (wSeq (dVar 3)) (.nm 4) (dSeq (dAsg (dVar 4) (.nm 9))
  (dFor (wRg1 (dC (.int 4))) (.nm 10) (dSeq (dAsg (dCall noX W__law_amiss (dCons (dVar 9) (dCons (dC (.bool true)) (dCons (dC .none) dNil)))) (.nm 12))
  (dSeq (dIfS (dTest (dOp rdNe (dB rdRepr (dCons (dCall noX (W__law_told fa_) (dCons (dFn fa_ "read_row") (dCons (dVar 9) dNil))) dNil)) (dB rdRepr (dCons (dIf (dTest (dOp rdIsN (dVar 12) (dC .none))) (dC .none) (dTup (dCons (dC (.int 0)) (dCons (dVar 12) dNil)))) dNil)))) (dRet (dC (.bool false))) dNext)
  (dAsg (dCall noX W__law_spoilt (dCons (dVar 1) (dCons (dVar 9) dNil))) (.nm 9)))))))
  (dSeq (dAsg (dOp rdAdd (dL (fLst (dCons (dOp rdAdd (dC (.str "store ")) (dB rdStrA (dCons (dOp rdAdd (dC (.int 1)) (dOp rdMod (dVar 7) (dC (.int 3)))) dNil))) dNil))) (dSl (dVar 3) (dPart (dC (.int 1))) dNoPart)) (.nm 5))
  (dSeq (dFor (wSeq (dOp rdAdd (dL (fLst (dCons (dL (fLst dNil)) (dCons (dVar 3) (dCons (dSl (dVar 3) (dPart (dC (.int 1))) dNoPart) (dCons (dOp rdAdd (dVar 3) (dSl (dVar 3) dNoPart (dPart (dC (.int 1))))) (dCons (dVar 5) dNil))))))) (dL (fLc (wRg1 (dC (.int 14))) (.nm 13) dYes (dCall noX W__law_lines_spoilt (dCons (dVar 1) (dCons (dVar 3) dNil))) [13])))) (.nm 6) (dSeq (dAsg (dL (fB rfList (dCons (dVar 6) dNil))) (.nm 11))
  (dIfS (dOr (dTest (dOp rdNe (dB rdRepr (dCons (dCall noX (W__law_told fa_) (dCons (dFn fa_ "read_log") (dCons (dVar 6) dNil))) dNil)) (dB rdRepr (dCons (dCall noX W__law_log_amiss (dCons (dVar 6) dNil)) dNil)))) (dTest (dOp rdNe (dVar 6) (dVar 11)))) (dRet (dC (.bool false))) dNext)))
  (dRet (dC (.bool true))))))
theorem lawT_le {wd : Option Int} : ∀ (fs ws : List Str) (k n : Nat), lawT wd fs ws k = some n → n ≤ k + fs.length
  | [], [], k, n, h => by cases h
  | _ :: _, [], k, n, h => by have h' : some k = some n := h; rw [← Option.some.inj h']; omega
  | [], _ :: _, k, n, h => by have h' : some k = some n := h; rw [← Option.some.inj h']; omega
  | f :: fs, v :: vs, k, n, h => by
    have e : lawT wd (f :: fs) (v :: vs) k = if stB f v wd = true then lawT wd fs vs (k + 1) else some k := rfl
    rw [e] at h
    split at h
    · have := lawT_le fs vs (k + 1) n h
      rw [List.length_cons]
      omega
    · rw [← Option.some.inj h]; omega
theorem lawL_le {can : Bool} {wd : Option Int} {ws : List Str} {n : Nat} (h : lawL can wd ws = some n) : n ≤ 4 := by
  cases ws with
  | nil => have h' : some 0 = some n := h; rw [← Option.some.inj h']; omega
  | cons w wt =>
    have eL : lawL can wd (w :: wt) = match LF.lookup w with
      | none => some 0
      | some fs => if (decide (w = "store") && !can) = true then some 0 else lawT wd fs wt 1 := rfl
    rw [eL] at h
    cases hf : LF.lookup w with
    | none => rw [hf] at h; have h' : some 0 = some n := h; rw [← Option.some.inj h']; omega
    | some fs =>
      rw [hf] at h
      have h' : (if (decide (w = "store") && !can) = true then some 0 else lawT wd fs wt 1) = some n := h
      split at h'
      · rw [← Option.some.inj h']; omega
      · have := lawT_le _ _ _ _ h'
        have := (LF_in hf).2
        omega
theorem lawR_le {c : Int} : ∀ (ls : List Str) (i : Nat) (p : Nat × Nat), lawR c ls i = some p → p.1 ≤ i + ls.length ∧ p.2 ≤ 4
  | [], _, _, h => by cases h
  | l :: ls, i, p, h => by
    have e1 : lawR c (l :: ls) i = match lawL false (some c) (Txt.split l " ") with
      | some n => some (i, n)
      | none => lawR c ls (i + 1) := rfl
    rw [e1] at h
    cases q : lawL false (some c) (Txt.split l " ") with
    | some n =>
      rw [q] at h
      have h' : some (i, n) = some p := h
      rw [← Option.some.inj h']
      exact ⟨by show i ≤ _; omega, lawL_le q⟩
    | none =>
      rw [q] at h
      have := lawR_le ls (i + 1) p h
      rw [List.length_cons]
      omega
theorem lawG_le {ls : List Str} {p : Nat × Nat} (h : lawG ls = some p) : p.1 ≤ ls.length ∧ p.2 ≤ 4 := by
  cases ls with
  | nil => have h' : some (0, 0) = some p := h; rw [← Option.some.inj h']; exact ⟨by decide, by decide⟩
  | cons l ls =>
    have e1 : lawG (l :: ls) = if (Txt.split l " ").head? = some ("store" : Str) then match lawL true none (Txt.split l " ") with
        | some n => some (0, n)
        | none => lawR (wideI (Txt.split l " ")) ls 1
      else some (0, 0) := rfl
    rw [e1] at h
    split at h
    · cases q : lawL true none (Txt.split l " ") with
      | some n =>
        rw [q] at h
        have h' : some (0, n) = some p := h
        rw [← Option.some.inj h']
        exact ⟨Nat.zero_le _, lawL_le q⟩
      | none =>
        rw [q] at h
        have := lawR_le _ _ _ h
        rw [List.length_cons]
        omega
    · rw [← Option.some.inj h]; exact ⟨Nat.zero_le _, by decide⟩
theorem ans_repr {o : Option (Nat × Nat)} (h : ∀ p, o = some p → p.1 ≤ 1000 ∧ p.2 ≤ 1000) : reprOk (ansD o) := by
  cases o with
  | none => exact (Big.none (n := 1)).repr
  | some p =>
    have := h p rfl
    exact (BigL.cons (n := 1) (Big.int (by omega)) (BigL.cons (Big.int (by omega)) BigL.nil)).tup.repr
theorem strs_eqv {ls : List Str} (h : ∀ z ∈ ls, TxOk z) : PyData.eqv (.list (ls.map PyData.str)) (.list (ls.map PyData.str)) = true := by
  refine PySem.SeqAt.eqv_refl _ (dOk_ok 1 _ ?_).1
  simp only [dOk]
  refine List.all_eq_true.mpr fun x hx => ?_
  obtain ⟨z, hz, rfl⟩ := List.mem_map.mp hx
  exact strOk_of (h z hz).2
def encS (ls : List Str) : PyData := .list (ls.map PyData.str)
def LsOk (ls : List Str) : Prop := ls.length ≤ 101 ∧ ∀ z ∈ ls, z.length ≤ 900 ∧ ChOk z
theorem LsOk.tx {ls : List Str} (h : LsOk ls) : ∀ z ∈ ls, TxOk z := fun z hz => ⟨by have := (h.2 z hz).1; omega, (h.2 z hz).2⟩
def Qt : DK := fun r _ => r = .d (.bool true)
def sl86 (ns : List Int) (f b : Addr) (w : Int) (D : PyData) (LN : List Str) (x4 x5 x6 x9 x10 x11 x12 : Option SV) : DSt := [some (.d (.list (ns.map PyData.int))), some (.own f), some (.d D), some (.d (encS LN)), x4, x5, x6, some (.d (.int w)), some (.own b), x9, x10, x11, x12, none, none]
theorem ne_refl {z : Str} : (!(z == z)) = false := by rw [beq_self_eq_true]; rfl
section
variable {h : MH} {sc : List Int} {C : Int}
theorem law_b {ns : List Int} {fa : Str → Addr} {f b : Addr} {w : Int} {D : PyData} {LN : List Str} {x4 x9 x10 x12 : Option SV} {o : MO} (hw : 1 ≤ w ∧ w ≤ 3) (ha : h f = some o) (F : Fd sc C o) (hs : sc.length ≤ 63) (hC : C + 1000 ≤ 10 ^ 12)
    (h1 : 1 ≤ LN.length) (hl : LN.length ≤ 60) (hz : ∀ z ∈ LN, z.length ≤ 400 ∧ ChOk z) :
    rest86b fa (dEnd (fun _ => none) Qt) (sl86 ns f b w D LN x4 none none x9 x10 none x12) h := by
  obtain ⟨l0, lr, hLN⟩ : ∃ l0 lr, LN = l0 :: lr := by
    cases LN with
    | nil => cases h1
    | cons a r => exact ⟨a, r, rfl⟩
  have okl : ∀ {ls : List Str}, ls.length ≤ 101 → (∀ z ∈ ls, z ∈ LN) → LsOk ls := fun {ls} a c => ⟨a, fun z q => ⟨by have := (hz z (c z q)).1; omega, (hz z (c z q)).2⟩⟩
  obtain ⟨s1, hs1⟩ : ∃ s : Str, s = "store " ++ itW (1 + w.fmod 3) := ⟨_, rfl⟩
  have fm := fmod_in (i := w) (m := 3) (by decide)
  have hst : ("store " : Str).length = 6 := by decide +kernel
  have il : (itW (1 + w.fmod 3)).length ≤ 10 := itW_len (by omega)
  have s1ok : s1.length ≤ 900 ∧ ChOk s1 := by
    rw [hs1]
    refine ⟨by rw [app_len]; omega, ChOk.app (show ∀ c ∈ ("store " : Str).cps.toList, c < 1114112 by decide +kernel) fun c hc => ?_⟩
    rcases itW_signs c hc with q | q <;> omega
  have ct : cutD (LN.map PyData.str) (some 1) none = lr.map PyData.str := by rw [hLN, List.map_cons]; exact cut_tail
  have c1 : cutD (LN.map PyData.str) none (some 1) = [l0].map PyData.str := by
    have e := cut_take (xs := LN.map PyData.str) (n := 1) (by rw [List.length_map]; exact h1)
    refine e.trans ?_
    rw [hLN]
    rfl
  have hlr : lr.length + 1 = LN.length := by rw [hLN]; rfl
  unfold rest86b sl86 encS
  walk_at "dl"
  refine b_strAi (log_le (by omega)) ?_
  refine r_addTx (by show _ + (itW (1 + w.fmod 3)).length ≤ _; omega) ?_
  walk_at "dl"
  rw [ct]
  refine r_addL (by rw [List.length_map]; simp; omega) ?_
  have e1 : [PyData.str (("store " : Str) ++ Str.ofString (toString (1 + w.fmod 3)))] ++ lr.map PyData.str = (s1 :: lr).map PyData.str := by rw [hs1]; rfl
  rw [e1]
  walk_at "dl"
  rw [ct]
  walk_at "dl"
  rw [c1]
  refine r_addL (by rw [List.length_map]; simp; omega) ?_
  rw [← List.map_append]
  walk_at "dl"
  refine k_wRg1 ⟨by decide, by decide⟩ ?_
  rw [rg0]
  refine ⟨by rw [sizeLine_eq, List.length_map, rgI_len]; decide, ?_⟩
  refine lc_inv (fun ts acc h' => ∃ (l1 l2 : List Int) (o' : MO) (xs : List (List Str)), rgI 14 = l1 ++ l2 ∧ ts = l2.map PyData.int ∧ acc = xs.map encS ∧ xs.length = l1.length ∧ (∀ x ∈ xs, LsOk x) ∧ h' = mput h f o' ∧ Fd sc (C + 10 * l1.length) o') ?_ ?_ _ [] _
    ⟨[], rgI 14, o, [], rfl, rfl, rfl, rfl, (fun x hx => by cases hx), (put_id ha).symm, F.up (by simp)⟩
  · rintro d r acc h1' KK ⟨l1, l2, o5, xs, el, er, rfl, hl', hx, rfl, F5⟩ hK
    obtain ⟨x, l3, rfl, rfl, rfl⟩ := map_cons_inv er
    have ll : l1.length + 1 ≤ 14 := by
      have := congrArg List.length el
      rw [rgI_len, List.length_append, List.length_cons] at this
      omega
    refine ⟨_, rfl, ?_⟩
    refine e_yes (k_lc (fun _ => ?_) fun q => by cases q)
    walk_at "dl"
    refine w_lines_spoilt put_same F5 hs (by omega) (by decide : 400 ≤ 100000) h1 (by omega) hz fun ls' o6 l6 z6 F6 => ?_
    rw [put_put]
    walk_at "dl"
    refine k_lcE ?_
    refine hK _ _ ⟨l1 ++ [x], l3, o6, xs ++ [ls'], by rw [el]; simp, rfl, by rw [List.map_append]; rfl, by rw [List.length_append, List.length_append, hl']; rfl, fun z hz' => ?_, rfl, F6.up (by rw [List.length_append, List.length_singleton]; omega)⟩
    rcases List.mem_append.mp hz' with q | q
    · exact hx z q
    · rw [List.mem_singleton.mp q]
      exact ⟨l6, fun y hy => ⟨by have := (z6 y hy).1; omega, (z6 y hy).2⟩⟩
  rintro acc h1' ⟨l1, l2, o5, xs, el, er, rfl, hl', hx, rfl, F5⟩
  have e2 : l2 = [] := List.map_eq_nil_iff.mp er.symm
  subst e2
  rw [List.append_nil] at el
  subst el
  rw [rgI_len] at hl'
  refine r_addL (by rw [List.length_map, hl']; show 5 + (14 : Int).toNat ≤ 16777216; decide) ?_
  obtain ⟨X, hX⟩ : ∃ X : List (List Str), X = [[], LN, lr, LN ++ [l0], s1 :: lr] ++ xs := ⟨_, rfl⟩
  have eX : [PyData.list [], .list (LN.map PyData.str), .list (lr.map PyData.str), .list ((LN ++ [l0]).map PyData.str), .list ((s1 :: lr).map PyData.str)] ++ xs.map encS = X.map encS := by
    rw [hX]
    exact (List.map_append (f := encS) (l₁ := [[], LN, lr, LN ++ [l0], s1 :: lr]) (l₂ := xs)).symm
  rw [eX]
  have hXo : ∀ x ∈ X, LsOk x := fun x hx' => by
    rw [hX] at hx'
    have m0 : l0 ∈ LN := by rw [hLN]; exact List.mem_cons_self
    have mr : ∀ z ∈ lr, z ∈ LN := fun z hz' => by rw [hLN]; exact List.mem_cons_of_mem _ hz'
    rcases List.mem_append.mp hx' with q | q
    · simp only [List.mem_cons, List.not_mem_nil, or_false] at q
      rcases q with rfl | rfl | rfl | rfl | rfl
      · exact okl (by simp) fun z hz' => by cases hz'
      · exact okl (by omega) fun z hz' => hz'
      · exact okl (by omega) mr
      · refine okl (by rw [List.length_append, List.length_singleton]; omega) fun z hz' => ?_
        rcases List.mem_append.mp hz' with q | q
        · exact q
        · rw [List.mem_singleton.mp q]; exact m0
      · refine ⟨by rw [List.length_cons]; omega, fun z hz' => ?_⟩
        rcases List.mem_cons.mp hz' with rfl | q
        · exact s1ok
        · exact ⟨by have := (hz z (mr z q)).1; omega, (hz z (mr z q)).2⟩
    · exact hx x q
  walk_at "dl"
  refine for_inv (fun rs σ h' => ∃ (l1 l2 : List (List Str)) (x6 x11 : Option SV), X = l1 ++ l2 ∧ rs = l2.map encS ∧ h' = mput h f o5 ∧ σ = [some (.d (.list (ns.map PyData.int))), some (.own f), some (.d D), some (.d (.list (LN.map PyData.str))), x4, some (.d (.list ((s1 :: lr).map PyData.str))), x6, some (.d (.int w)), some (.own b), x9, x10, x11, x12, none, none]) ?_ ?_ _ _ _ ⟨[], X, none, none, rfl, rfl, rfl, rfl⟩
  · rintro d rs σ h1'' KK ⟨l1, l2, x6, x11, el, er, rfl, rfl⟩ hK
    obtain ⟨r, l3, rfl, rfl, rfl⟩ := map_cons_invG er
    have hr := hXo r (by rw [el]; simp)
    have htx := hr.tx
    have hlr' := hr.1
    refine ⟨_, rfl, ?_⟩
    try simp only [List.set_cons_succ, List.set_cons_zero]
    unfold encS
    walk_at "dl"
    try simp only [List.set_cons_succ, List.set_cons_zero]
    have le : ∀ p, lawG r = some p → p.1 ≤ 1000 ∧ p.2 ≤ 1000 := fun p hp => by have := lawG_le hp; omega
    refine w_told_log (fun z hz' => (htx z hz').1) (by omega) ?_
    rw [← log_law]
    walk_at "dl"
    refine b_repr (ans_repr le) ?_
    walk_at "dl"
    refine w_log_amiss htx (by omega) ?_
    walk_at "dl"
    refine b_repr (ans_repr le) ?_
    walk_at "dl"
    rw [ne_refl]
    refine k_or (fun z => by cases z) fun _ => ?_
    walk_at "dl"
    refine r_ne rfl rfl (strs_shaped htx) (strs_shaped htx) ?_
    rw [strs_eqv htx]
    walk_at "dl"
    refine k_if (fun z => by cases z) fun _ => ?_
    refine e_next ?_
    dsimp only
    exact hK _ _ ⟨l1 ++ [r], l3, _, _, by rw [el]; simp, rfl, rfl, rfl⟩
  · rintro σ h1'' ⟨l1, l2, x6, x11, el, er, rfl, rfl⟩
    walk_at "dl"
    rfl
theorem lap_one {ns : List Int} {fa : Str → Addr} {f b : Addr} {w : Int} {D : PyData} {LN : List Str} {z : Str} {x4 x10 x12 : Option SV} {o : MO} {KK : DSt → MH → Prop} {ct' bk' : DSt → MH → Prop} {rt' : DK} (ha : h f = some o) (F : Fd sc C o) (hs : sc.length ≤ 63) (hC : C + 100 ≤ 10 ^ 12) (hz : z.length ≤ 100000) (hc : ChOk z)
    (k : ∀ z' o' x12', z'.length ≤ 2 * z.length + 40 → ChOk z' → Fd sc (C + 6) o' → KK (sl86 ns f b w D LN x4 none none (some (.d (.str z'))) x10 none x12') (mput h f o')) :
    lap86 fa { nx := KK, rt := rt', bk := bk', ct := ct' } (sl86 ns f b w D LN x4 none none (some (.d (.str z))) x10 none x12) h := by
  have tz : TxOk z := ⟨by omega, hc⟩
  unfold lap86 sl86
  walk_at "dl"
  refine w_amiss (can := true) (wd := none) tz ?_
  walk_at "dl"
  try simp only [List.set_cons_succ, List.set_cons_zero]
  refine w_told_row tz.1 ?_
  have e3 : lineL true (Txt.split z " ") = lineE true z := rfl
  have eL := line_lawT (Txt.split z " ")
  rw [e3] at eL
  rw [← eL]
  have nxt : ∀ x12' : Option SV, dAsg (dCall noX W__law_spoilt (dCons (dVar 1) (dCons (dVar 9) dNil))) (.nm 9) { nx := KK, rt := rt', bk := bk', ct := ct' } (sl86 ns f b w D LN x4 none none (some (.d (.str z))) x10 none x12') h := fun x12' => by
    unfold sl86
    walk_at "dl"
    refine w_spoilt ha F hs (by omega) hz hc fun z' o' l' c' F' => ?_
    walk_at "dl"
    exact k z' o' x12' l' c' F'
  cases q : lawL true none (Txt.split z " ") with
  | none =>
    walk_at "dl"
    refine b_repr (ans_repr fun p hp => by cases hp) ?_
    walk_at "dl"
    refine k_ifE (fun _ => ?_) fun z => by cases z
    walk_at "dl"
    refine b_repr (ans_repr (o := none) fun p hp => by cases hp) ?_
    walk_at "dl"
    refine k_if (fun y => ?_) fun _ => ?_
    · have y' : (!((ansD none).shown == (ansD none).shown)) = true := y
      rw [ne_refl] at y'
      cases y'
    refine e_next ?_
    exact nxt _
  | some n =>
    have hn := lawL_le q
    have R : reprOk (ansD (some (0, n))) := ans_repr fun p hp => by rw [← Option.some.inj hp]; exact ⟨Nat.zero_le _, by show n ≤ 1000; omega⟩
    walk_at "dl"
    refine b_repr R ?_
    walk_at "dl"
    refine k_ifE (fun z => by cases z) fun _ => ?_
    walk_at "dl"
    refine b_repr R ?_
    walk_at "dl"
    refine k_if (fun y => ?_) fun _ => ?_
    · have y' : (!((ansD (some (0, n))).shown == (ansD (some (0, n))).shown)) = true := y
      rw [ne_refl] at y'
      cases y'
    refine e_next ?_
    exact nxt _
theorem law_a {ns : List Int} {fa : Str → Addr} {f b : Addr} {w : Int} {D : PyData} {LN : List Str} {o : MO} (hw : 1 ≤ w ∧ w ≤ 3) (ha : h f = some o) (F : Fd sc C o) (hs : sc.length ≤ 63) (hC : C + 10000 ≤ 10 ^ 12)
    (h1 : 1 ≤ LN.length) (hl : LN.length ≤ 60) (hz : ∀ z ∈ LN, z.length ≤ 400 ∧ ChOk z) :
    rest86a fa (dEnd (fun _ => none) Qt) (sl86 ns f b w D LN none none none none none none none) h := by
  unfold rest86a
  show dSeq (dFor _ _ (dSeq _ (dFor _ _ (lap86 fa)))) (rest86b fa) _ _ _
  unfold sl86 encS
  walk_at "dl"
  refine for_inv (fun rs σ h' => ∃ (l1 l2 : List Str) (x4 x9 x10 x12 : Option SV) (o' : MO), LN = l1 ++ l2 ∧ rs = l2.map PyData.str ∧ h' = mput h f o' ∧ Fd sc (C + 24 * l1.length) o' ∧ σ = sl86 ns f b w D LN x4 none none x9 x10 none x12) ?_ ?_ _ _ _ ⟨[], LN, none, none, none, none, o, rfl, rfl, (put_id ha).symm, F.up (by simp), rfl⟩
  · rintro d rs σ h1' KK ⟨l1, l2, x4, x9, x10, x12, o1, el, er, rfl, F1, rfl⟩ hK
    obtain ⟨z, l3, rfl, rfl, rfl⟩ := map_cons_invG er
    have zok := hz z (by rw [el]; simp)
    have ll : l1.length + 1 ≤ 60 := by
      have := congrArg List.length el
      rw [List.length_append, List.length_cons] at this
      omega
    refine ⟨_, rfl, ?_⟩
    unfold sl86
    try simp only [List.set_cons_succ, List.set_cons_zero]
    walk_at "dl"
    try simp only [List.set_cons_succ, List.set_cons_zero]
    refine k_wRg1 ⟨by decide, by decide⟩ ?_
    rw [rg0]
    refine for_inv (fun rs' σ' h' => ∃ (k1 k2 : List Int) (z' : Str) (x10' x12' : Option SV) (o' : MO), rgI 4 = k1 ++ k2 ∧ rs' = k2.map PyData.int ∧ h' = mput h f o' ∧ z'.length + 40 ≤ 440 * 2 ^ k1.length ∧ ChOk z' ∧ Fd sc (C + 24 * l1.length + 6 * k1.length) o' ∧ σ' = sl86 ns f b w D LN (some (.d (.str z))) none none (some (.d (.str z'))) x10' none x12') ?_ ?_ _ _ _
      ⟨[], rgI 4, z, x10, x12, o1, rfl, rfl, rfl, by simp; omega, zok.2, F1.up (by simp), rfl⟩
    · rintro d rs' σ' h2 K2 ⟨k1, k2, z', x10', x12', o2, ek, er', rfl, hzl, hzc, F2, rfl⟩ hK2
      obtain ⟨x, k3, rfl, rfl, rfl⟩ := map_cons_inv er'
      have kl : k1.length + 1 ≤ 4 := by
        have := congrArg List.length ek
        rw [rgI_len, List.length_append, List.length_cons] at this
        have e4 : (4 : Int).toNat = 4 := rfl
        omega
      have p4 : 2 ^ k1.length ≤ 2 ^ 3 := Nat.pow_le_pow_right (by decide) (by omega)
      have p4' : 2 ^ k1.length ≤ 8 := p4
      refine ⟨_, rfl, ?_⟩
      refine lap_one (x10 := some (.d (.int x))) put_same F2 hs (by omega) (by omega) hzc fun z2 o3 x12'' l2' c2 F3 => ?_
      rw [put_put]
      refine hK2 _ _ ⟨k1 ++ [x], k3, z2, _, _, o3, by rw [ek]; simp, rfl, rfl, ?_, c2, F3.up (by rw [List.length_append, List.length_singleton]; omega), rfl⟩
      rw [List.length_append, List.length_singleton, Nat.pow_succ]
      omega
    · rintro σ' h2 ⟨k1, k2, z', x10', x12', o2, ek, er', rfl, hzl, hzc, F2, rfl⟩
      have e2 : k2 = [] := List.map_eq_nil_iff.mp er'.symm
      subst e2
      rw [List.append_nil] at ek
      have kl : k1.length = 4 := by rw [← ek, rgI_len]; rfl
      exact hK _ _ ⟨l1 ++ [z], l3, _, _, _, _, o2, by rw [el]; simp, rfl, rfl, F2.up (by rw [List.length_append, List.length_singleton]; omega), rfl⟩
  · rintro σ h1' ⟨l1, l2, x4, x9, x10, x12, o1, el, er, rfl, F1, rfl⟩
    have e2 : l2 = [] := List.map_eq_nil_iff.mp er.symm
    subst e2
    rw [List.append_nil] at el
    subst el
    exact law_b hw put_same F1 hs (by omega) h1 hl hz
theorem rep_one {v : Int} (w : Nat) : (List.replicate w [PyData.int v]).flatten = (List.replicate w v).map PyData.int := by
  induction w with
  | zero => rfl
  | succ w ih => rw [List.replicate_succ, List.flatten_cons, ih, List.replicate_succ]; rfl
theorem vb_rep {w v : Int} (hw : 1 ≤ w) (hv : v.natAbs ≤ 999999999) : VB w (List.replicate w.toNat v) := ⟨by rw [List.length_replicate]; omega, fun x hx => by rw [(List.mem_replicate.mp hx).2]; exact hv⟩
theorem r_mulTw {ds : List PyData} {n : Int} {h : MH} {Q : DK} (a : ds ≠ []) (b : 1 ≤ n) (c : n ≤ 1000) (l : ds.length ≤ 1000) (k : Q (.d (.tuple (List.replicate n.toNat ds).flatten)) h) : rdMulT (.d (.tuple ds)) (.d (.int n)) h Q := ⟨a, b, c, l, k⟩
end
theorem law_pure (ns : List Int) (hn : ns.length ≤ 63) (_hb : ∀ z ∈ ns, Builtin.Int.intBits z ≤ 1048576) : W_law [.d (.list (ns.map PyData.int))] (fun _ => none) (fun r _ => r = .d (.bool true)) fun _ _ => False := by
  refine fnA_mk rfl fun fa => ?_
  unfold t_law
  show dSeq _ _ _ [some (.d (.list (ns.map PyData.int))), none, none, none, none, none, none, none, none, none, none, none, none, none, none] (fun _ => none)
  walk_at "dl"
  refine w_feed fun f fo hf F => ?_
  have hs : (ns.take 63).length ≤ 63 := by rw [List.length_take]; omega
  walk_at "dl"
  refine w_drawS put_same F hs (by omega) ⟨by decide, by decide⟩ fun w0 o1 w00 w01 F1 => ?_
  rw [put_put]
  walk_at "dl"
  intro b hb2
  have hfb : f ≠ b := fun z => by rw [← z, put_same] at hb2; cases hb2
  walk_at "dl"
  intro tp htp
  refine k_unp put_same rfl rfl ?_
  try simp only [List.set_cons_succ, List.set_cons_zero]
  walk_at "dl"
  obtain ⟨g, hg⟩ : ∃ g, g = mput (mput (mput (fun _ => none) f o1) b (MO.lst [PyData.int 3])) tp (MO.tpl [SV.d (PyData.int (1 + w0)), SV.own b]) := ⟨_, rfl⟩
  have ntf : tp ≠ f := fun z => by rw [z, put_other hfb, put_same] at htp; cases htp
  have ntb : tp ≠ b := fun z => by rw [z, put_same] at htp; cases htp
  have gf : g f = some o1 := by rw [hg, put_other (Ne.symm ntf), put_other hfb, put_same]
  have gb : g b = some (.lst [.int 3]) := by rw [hg, put_other (Ne.symm ntb), put_same]
  rw [← hg]
  clear hg
  obtain ⟨w, hw⟩ : ∃ w, w = 1 + w0 := ⟨_, rfl⟩
  rw [← hw]
  have hw3 : 1 ≤ w ∧ w ≤ 3 := by omega
  refine w_openS hs gf hw3 F1 (by decide) fun v1 v2 v3 u v4 c u2 o3 hv hc F3 => ?_
  walk_at "dl"
  refine k_wRg1 ⟨by decide, by decide⟩ ?_
  rw [rg0]
  refine ⟨by rw [sizeLine_eq, List.length_map, rgI_len]; decide, ?_⟩
  refine lc_inv (fun ts acc h' => ∃ (l1 l2 : List Int) (o' : MO) (gg : Int) (xs : List Dd), rgI 10 = l1 ++ l2 ∧ ts = l2.map PyData.int ∧ acc = xs.map Dd.enc ∧ xs.length = l1.length ∧ (∀ x ∈ xs, DdOk w x) ∧ h' = mput (mput g f o') b (.lst [.int gg]) ∧ 3 ≤ gg ∧ gg ≤ 18 ∧ Fd (ns.take 63) (40 + 12 * l1.length) o') ?_ ?_ _ [] _
    ⟨[], rgI 10, o3, 3, [], rfl, rfl, rfl, rfl, (fun x hx => by cases hx), (put_id ((put_other (Ne.symm hfb)).trans gb)).symm, by decide, by decide, F3.up (by simp)⟩
  · rintro d r acc h1 KK ⟨l1, l2, o5, gg, xs, el, er, rfl, hl, hx, rfl, g1, g2, F5⟩ hK
    obtain ⟨x, l3, rfl, rfl, rfl⟩ := map_cons_inv er
    have ll : l1.length + 1 ≤ 10 := by
      have := congrArg List.length el
      rw [rgI_len, List.length_append, List.length_cons] at this
      omega
    refine ⟨_, rfl, ?_⟩
    refine e_yes (k_lc (fun _ => ?_) fun q => by cases q)
    walk_at "dl"
    refine w_deedS hs ⟨g1, g2⟩ ((put_other hfb).trans put_same) put_same hfb hw3 F5 (by omega) fun d' o6 g' t4 F6 hg' => ?_
    refine k_lcE ?_
    have eh : mput (mput (mput (mput g f o5) b (.lst [.int gg])) f o6) b (.lst [.int g']) = mput (mput g f o6) b (.lst [.int g']) := by
      funext z
      unfold mput
      by_cases q1 : z = b
      · rw [if_pos q1, if_pos q1]
      · rw [if_neg q1, if_neg q1]
        by_cases q2 : z = f
        · rw [if_pos q2, if_neg q1, if_pos q2]
        · rw [if_neg q2, if_neg q2, if_neg q1, if_neg q2]
    rw [eh]
    refine hK _ _ ⟨l1 ++ [x], l3, o6, g', xs ++ [d'], by rw [el]; simp, rfl, by rw [List.map_append]; rfl, by rw [List.length_append, List.length_append, hl]; rfl, fun z hz => ?_, rfl, hg'.1, hg'.2, F6.up (by rw [List.length_append, List.length_singleton]; omega)⟩
    rcases List.mem_append.mp hz with q | q
    · exact hx z q
    · rw [List.mem_singleton.mp q]
      exact t4
  rintro acc h1 ⟨l1, l2, o5, gg, xs, el, er, rfl, hl, hx, rfl, g1, g2, F5⟩
  have e2 : l2 = [] := List.map_eq_nil_iff.mp er.symm
  subst e2
  rw [List.append_nil] at el
  subst el
  rw [rgI_len] at hl F5
  have hl10 : xs.length = 10 := hl
  obtain ⟨g3, hg3⟩ : ∃ g3, g3 = mput (mput g f o5) b (.lst [.int gg]) := ⟨_, rfl⟩
  have g3f : g3 f = some o5 := by rw [hg3, put_other hfb, put_same]
  rw [← hg3]
  clear hg3 gf gb
  obtain ⟨D1, hD1⟩ : ∃ D, D = opnL v1 v2 v3 u v4 c u2 ++ xs := ⟨_, rfl⟩
  have d1 : ∀ d ∈ D1, DdOk w d := fun d hd => by
    rw [hD1] at hd
    rcases List.mem_append.mp hd with q | q
    · have n1 : ("a" : Str) ∈ nmL := by decide +kernel
      have n2 : ("b" : Str) ∈ nmL := by decide +kernel
      unfold opnL at q
      simp only [List.mem_cons, List.not_mem_nil, or_false] at q
      rcases q with rfl | rfl | rfl | rfl | rfl | rfl | rfl | rfl | rfl | rfl | rfl | rfl | rfl | rfl
      · trivial
      · exact ⟨⟨by decide, by decide⟩, hv.1⟩
      · exact ⟨⟨by decide, by decide⟩, hv.2.1⟩
      · exact ⟨⟨by decide, by decide⟩, hv.2.2.1⟩
      · exact ⟨by decide, by decide⟩
      · exact ⟨n1, by decide, by omega⟩
      · exact ⟨n1, by decide⟩
      · exact ⟨n1, by decide⟩
      · exact ⟨n1, by decide⟩
      · exact ⟨n1, by decide⟩
      · trivial
      · exact ⟨⟨by decide, by decide⟩, hv.2.2.2⟩
      · exact ⟨n2, hc.1, hc.2⟩
      · trivial
    · exact hx d q
  have hD1l : D1.length = 24 := by
    rw [hD1, List.length_append, hl10]
    rfl
  refine r_addL (by rw [List.length_map, List.length_map, hl10]; have : (opnL v1 v2 v3 u v4 c u2).length = 14 := rfl; omega) ?_
  rw [← List.map_append, ← hD1]
  walk_at "dl"
  refine r_mulTw (by simp) (by omega) (by omega) (by simp) ?_
  rw [rep_one]
  walk_at "dl"
  refine r_addL (by rw [List.length_map, hD1l]; simp) ?_
  walk_at "dl"
  refine r_addL (by rw [List.length_append, List.length_map, hD1l]; simp) ?_
  obtain ⟨DS, hDS⟩ : ∃ DS : List Dd, DS = D1 ++ [.turn 0 (0 - 3) (List.replicate w.toNat 7), .strike 1 2, .gone 1, .leave "b", .clean, .crash] := ⟨_, rfl⟩
  have eDS : ∀ X Y : List PyData, X = [PyData.tuple [.str "turn", .int 0, .int (0 - 3), .tuple ((List.replicate w.toNat 7).map PyData.int)], .tuple [.str "strike", .int 1, .int 2], .tuple [.str "gone", .int 1], .tuple [.str "leave", .str "b"]] → Y = [.tuple [.str "clean"], .tuple [.str "crash"]] → D1.map Dd.enc ++ X ++ Y = DS.map Dd.enc := fun X Y e1 e2 => by
    rw [hDS, e1, e2, List.map_append, List.append_assoc]
    rfl
  rw [eDS _ _ rfl rfl]
  have hDSl : DS.length = 30 := by rw [hDS, List.length_append, hD1l]; rfl
  have hDSo : ∀ d ∈ DS, RwOk d.rw := fun d hd => by
    refine (DdB.row hw3 ?_).ok
    rw [hDS] at hd
    rcases List.mem_append.mp hd with q | q
    · exact (d1 d q).b hw3.2
    · have n2 : NmB "b" := nm_ok (by decide +kernel)
      have nb : ∀ i : Int, 0 ≤ i → i ≤ 1 → NB i := fun i a b => ⟨a, by omega⟩
      simp only [List.mem_cons, List.not_mem_nil, or_false] at q
      rcases q with rfl | rfl | rfl | rfl | rfl | rfl
      · exact ⟨nb 0 (by decide) (by decide), by decide, vb_rep hw3.1 (by decide)⟩
      · exact ⟨nb 1 (by decide) (by decide), by decide⟩
      · exact nb 1 (by decide) (by decide)
      · exact n2
      · trivial
      · trivial
  walk_at "dl"
  try simp only [List.set_cons_succ, List.set_cons_zero]
  refine b_strAi (log_le (by omega)) ?_
  have il : (itW w).length ≤ 10 := itW_len (by omega)
  have hst : ("store " : Str).length = 6 := by decide +kernel
  refine r_addTx (by show _ + (itW w).length ≤ _; omega) ?_
  walk_at "dl"
  refine ⟨by rw [sizeLine_eq, List.length_map]; omega, ?_⟩
  refine lc_enc (enc := Dd.enc) (out := fun d => .str d.rw.line) (l := DS) (fun _ => true) (fun d hd => ⟨_, rfl, fun K hK => ?_, fun _ K hK => ?_⟩) ?_
  · walk_at "dl"
    exact hK
  · walk_at "dl"
    rw [d.enc_rw]
    refine w_law_lineR (hDSo d hd) ?_
    walk_at "dl"
    exact hK
  rw [List.filter_eq_self.mpr fun _ _ => rfl]
  obtain ⟨LN, hLN⟩ : ∃ LN : List Str, LN = (("store " : Str) ++ itW w) :: DS.map fun d => d.rw.line := ⟨_, rfl⟩
  have eLN : [PyData.str (("store " : Str) ++ Str.ofString (toString w))] ++ DS.map (fun d => PyData.str d.rw.line) = LN.map PyData.str := by
    rw [hLN, List.map_cons, List.map_map]
    rfl
  refine r_addL (by rw [List.length_map]; simp; omega) ?_
  rw [eLN]
  refine k_nm ?_
  refine law_a (f := f) (b := b) (w := w) (D := .list (DS.map Dd.enc)) (LN := LN) hw3 g3f F5 hs (by decide) (by rw [hLN, List.length_cons]; omega) (by rw [hLN, List.length_cons, List.length_map]; omega) fun z hz => ?_
  rw [hLN] at hz
  rcases List.mem_cons.mp hz with rfl | q
  · refine ⟨by rw [app_len]; omega, ChOk.app (show ∀ c ∈ ("store " : Str).cps.toList, c < 1114112 by decide +kernel) fun c hc => ?_⟩
    rcases itW_signs c hc with q | q <;> omega
  · obtain ⟨d, hd, rfl⟩ := List.mem_map.mp q
    refine ⟨by have := line_len (hDSo d hd); omega, fun c hc => ?_⟩
    have := rowC_lt (line_signs (hDSo d hd) c hc)
    omega

end DL.G
namespace DL.G
open PySem PySem.Spec PyProof.Rows L2
set_option autoImplicit true
theorem init_NoText {K : PySem.W.Frag} {mg : Str → Option Value} {C Cb : Addr} {fI : Addr} {fd : FuncData} {B newId initId : String} {bmB : List Value} (T : ErrC K mg "NoText" "StoreError" C Cb fI ["row", "word"] B newId initId bmB) (F : FunD K di_NoText.name di_NoText.qual di_NoText.params di_NoText.body di_NoText.scope [] [] fI fd) : Init2 K mg C fI "row" "word" :=
  fun prog w A R s e t0 v u X hl hg he hne hr k => err_init2 T F ⟨rfl, rfl, rfl, rfl, rfl, fun y hy => by
    rcases List.mem_cons.mp hy with e | e
    · subst e; exact ⟨rfl, by decide, by decide⟩
    · cases List.mem_singleton.mp e; exact ⟨rfl, by decide, by decide⟩⟩ (by decide) (fun _ _ _ _ _ _ us hl => match us, hl with | [_, _, _], _ => rfl) (fun _ => rfl) (fun _ => rfl) (by decide) (fun _ => rfl) (fun _ => rfl) X hl hg he hne hr k
theorem facts {w : World} {mg : Str → Option Value} {fa : Addr} {h : Heap} {K : PySem.W.Frag} (X : K.In h) (N : h.Ns mainGlobals mg) (hm : mg "law" = some (.ref fa)) (S : He.SaysX fas fns tbs tfs exB w h K) :
    ∃ fd : FuncData, (∀ (s : Shared) (u : Value), BindsTo s fd ⟨[u], []⟩ [("_law_script", u)]) ∧ ∀ base : Heap, K.In base → base.Ns mainGlobals mg → (∀ c ∈ tfs.map (He.cT K), LamX.TabB base mg c.1 c.2) → FnG (PySem.Challenge.rw_besideindex_k86_texts_refused).prog w K mg base (tabsT K tfs nm) 10 fa fd ["_law_script"] W_law := by
  obtain ⟨fd_is_number, D_is_number⟩ := S.t.d.def_ 0 (d := d_is_number) rfl
  have F_is_number := fun_of (x := "is_number") (st := s_is_number) D_is_number
  have m_is_number := He.glo_ok X N (S.t.d.fact 0 (f := .glo "is_number") rfl)
  obtain ⟨fd_is_word, D_is_word⟩ := S.t.d.def_ 1 (d := d_is_word) rfl
  have F_is_word := fun_of (x := "is_word") (st := s_is_word) D_is_word
  have m_is_word := He.glo_ok X N (S.t.d.fact 1 (f := .glo "is_word") rfl)
  obtain ⟨fd_is_figure, D_is_figure⟩ := S.t.d.def_ 2 (d := d_is_figure) rfl
  have F_is_figure := fun_of (x := "is_figure") (st := s_is_figure) D_is_figure
  have m_is_figure := He.glo_ok X N (S.t.d.fact 2 (f := .glo "is_figure") rfl)
  obtain ⟨fd_is_pace, D_is_pace⟩ := S.t.d.def_ 3 (d := d_is_pace) rfl
  have F_is_pace := fun_of (x := "is_pace") (st := s_is_pace) D_is_pace
  have m_is_pace := He.glo_ok X N (S.t.d.fact 3 (f := .glo "is_pace") rfl)
  obtain ⟨fd_is_columns, D_is_columns⟩ := S.t.d.def_ 4 (d := d_is_columns) rfl
  have F_is_columns := fun_of (x := "is_columns") (st := s_is_columns) D_is_columns
  have m_is_columns := He.glo_ok X N (S.t.d.fact 4 (f := .glo "is_columns") rfl)
  obtain ⟨fd_are_values, D_are_values⟩ := S.t.d.def_ 5 (d := d_are_values) rfl
  have F_are_values := fun_of (x := "are_values") (st := s_are_values) D_are_values
  have m_are_values := He.glo_ok X N (S.t.d.fact 5 (f := .glo "are_values") rfl)
  obtain ⟨fd_is_truth, D_is_truth⟩ := S.t.d.def_ 6 (d := d_is_truth) rfl
  have F_is_truth := fun_of (x := "is_truth") (st := s_is_truth) D_is_truth
  have m_is_truth := He.glo_ok X N (S.t.d.fact 6 (f := .glo "is_truth") rfl)
  obtain ⟨fd_is_of, D_is_of⟩ := S.t.d.def_ 7 (d := d_is_of) rfl
  have F_is_of := fun_of (x := "is_of") (st := s_is_of) D_is_of
  have m_is_of := He.glo_ok X N (S.t.d.fact 7 (f := .glo "is_of") rfl)
  obtain ⟨fd_figures_in, D_figures_in⟩ := S.t.d.def_ 8 (d := d_figures_in) rfl
  have F_figures_in := fun_of (x := "figures_in") (st := s_figures_in) D_figures_in
  have m_figures_in := He.glo_ok X N (S.t.d.fact 8 (f := .glo "figures_in") rfl)
  obtain ⟨fd_number_in, D_number_in⟩ := S.t.d.def_ 9 (d := d_number_in) rfl
  have F_number_in := fun_of (x := "number_in") (st := s_number_in) D_number_in
  have m_number_in := He.glo_ok X N (S.t.d.fact 9 (f := .glo "number_in") rfl)
  obtain ⟨fd_values_in, D_values_in⟩ := S.t.d.def_ 10 (d := d_values_in) rfl
  have F_values_in := fun_of (x := "values_in") (st := s_values_in) D_values_in
  have m_values_in := He.glo_ok X N (S.t.d.fact 10 (f := .glo "values_in") rfl)
  obtain ⟨fd_truth_in, D_truth_in⟩ := S.t.d.def_ 11 (d := d_truth_in) rfl
  have F_truth_in := fun_of (x := "truth_in") (st := s_truth_in) D_truth_in
  have m_truth_in := He.glo_ok X N (S.t.d.fact 11 (f := .glo "truth_in") rfl)
  obtain ⟨fd_plain_in, D_plain_in⟩ := S.t.d.def_ 12 (d := d_plain_in) rfl
  have F_plain_in := fun_of (x := "plain_in") (st := s_plain_in) D_plain_in
  have m_plain_in := He.glo_ok X N (S.t.d.fact 12 (f := .glo "plain_in") rfl)
  obtain ⟨fd_thing_in, D_thing_in⟩ := S.t.d.def_ 13 (d := d_thing_in) rfl
  have F_thing_in := fun_of (x := "thing_in") (st := s_thing_in) D_thing_in
  have m_thing_in := He.glo_ok X N (S.t.d.fact 13 (f := .glo "thing_in") rfl)
  obtain ⟨fd_things_in, D_things_in⟩ := S.t.d.def_ 14 (d := d_things_in) rfl
  have F_things_in := fun_of (x := "things_in") (st := s_things_in) D_things_in
  have m_things_in := He.glo_ok X N (S.t.d.fact 14 (f := .glo "things_in") rfl)
  obtain ⟨fd_line_in, D_line_in⟩ := S.t.d.def_ 15 (d := d_line_in) rfl
  have F_line_in := fun_of (x := "line_in") (st := s_line_in) D_line_in
  have m_line_in := He.glo_ok X N (S.t.d.fact 15 (f := .glo "line_in") rfl)
  obtain ⟨fd_read_row, D_read_row⟩ := S.t.d.def_ 16 (d := d_read_row) rfl
  have F_read_row := fun_of (x := "read_row") (st := s_read_row) D_read_row
  have m_read_row := He.glo_ok X N (S.t.d.fact 16 (f := .glo "read_row") rfl)
  obtain ⟨fd_ask_columns, D_ask_columns⟩ := S.t.d.def_ 17 (d := d_ask_columns) rfl
  have F_ask_columns := fun_of (x := "ask_columns") (st := s_ask_columns) D_ask_columns
  have m_ask_columns := He.glo_ok X N (S.t.d.fact 17 (f := .glo "ask_columns") rfl)
  obtain ⟨fd_read_log, D_read_log⟩ := S.t.d.def_ 18 (d := d_read_log) rfl
  have F_read_log := fun_of (x := "read_log") (st := s_read_log) D_read_log
  have m_read_log := He.glo_ok X N (S.t.d.fact 18 (f := .glo "read_log") rfl)
  obtain ⟨fd__law_feed, D__law_feed⟩ := S.t.d.def_ 19 (d := d__law_feed) rfl
  have F__law_feed := fun_of (x := "_law_feed") (st := s__law_feed) D__law_feed
  have m__law_feed := He.glo_ok X N (S.t.d.fact 19 (f := .glo "_law_feed") rfl)
  obtain ⟨fd__law_draw, D__law_draw⟩ := S.t.d.def_ 20 (d := d__law_draw) rfl
  have F__law_draw := fun_of (x := "_law_draw") (st := s__law_draw) D__law_draw
  have m__law_draw := He.glo_ok X N (S.t.d.fact 20 (f := .glo "_law_draw") rfl)
  obtain ⟨fd__law_values, D__law_values⟩ := S.t.d.def_ 21 (d := d__law_values) rfl
  have F__law_values := fun_of (x := "_law_values") (st := s__law_values) D__law_values
  have m__law_values := He.glo_ok X N (S.t.d.fact 21 (f := .glo "_law_values") rfl)
  obtain ⟨fd__law_deed, D__law_deed⟩ := S.t.d.def_ 22 (d := d__law_deed) rfl
  have F__law_deed := fun_of (x := "_law_deed") (st := s__law_deed) D__law_deed
  have m__law_deed := He.glo_ok X N (S.t.d.fact 22 (f := .glo "_law_deed") rfl)
  obtain ⟨fd__law_opening, D__law_opening⟩ := S.t.d.def_ 23 (d := d__law_opening) rfl
  have F__law_opening := fun_of (x := "_law_opening") (st := s__law_opening) D__law_opening
  have m__law_opening := He.glo_ok X N (S.t.d.fact 23 (f := .glo "_law_opening") rfl)
  obtain ⟨fd__law_line, D__law_line⟩ := S.t.d.def_ 24 (d := d__law_line) rfl
  have F__law_line := fun_of (x := "_law_line") (st := s__law_line) D__law_line
  have m__law_line := He.glo_ok X N (S.t.d.fact 24 (f := .glo "_law_line") rfl)
  obtain ⟨fd__law_number_in, D__law_number_in⟩ := S.t.d.def_ 25 (d := d__law_number_in) rfl
  have F__law_number_in := fun_of (x := "_law_number_in") (st := s__law_number_in) D__law_number_in
  have m__law_number_in := He.glo_ok X N (S.t.d.fact 25 (f := .glo "_law_number_in") rfl)
  obtain ⟨fd__law_is_word, D__law_is_word⟩ := S.t.d.def_ 26 (d := d__law_is_word) rfl
  have F__law_is_word := fun_of (x := "_law_is_word") (st := s__law_is_word) D__law_is_word
  have m__law_is_word := He.glo_ok X N (S.t.d.fact 26 (f := .glo "_law_is_word") rfl)
  obtain ⟨fd__law_stands, D__law_stands⟩ := S.t.d.def_ 27 (d := d__law_stands) rfl
  have F__law_stands := fun_of (x := "_law_stands") (st := s__law_stands) D__law_stands
  have m__law_stands := He.glo_ok X N (S.t.d.fact 27 (f := .glo "_law_stands") rfl)
  obtain ⟨fd__law_forms, D__law_forms⟩ := S.t.d.def_ 28 (d := d__law_forms) rfl
  have F__law_forms := fun_of (x := "_law_forms") (st := s__law_forms) D__law_forms
  have m__law_forms := He.glo_ok X N (S.t.d.fact 28 (f := .glo "_law_forms") rfl)
  obtain ⟨fd__law_amiss, D__law_amiss⟩ := S.t.d.def_ 29 (d := d__law_amiss) rfl
  have F__law_amiss := fun_of (x := "_law_amiss") (st := s__law_amiss) D__law_amiss
  have m__law_amiss := He.glo_ok X N (S.t.d.fact 29 (f := .glo "_law_amiss") rfl)
  obtain ⟨fd__law_spoilt, D__law_spoilt⟩ := S.t.d.def_ 30 (d := d__law_spoilt) rfl
  have F__law_spoilt := fun_of (x := "_law_spoilt") (st := s__law_spoilt) D__law_spoilt
  have m__law_spoilt := He.glo_ok X N (S.t.d.fact 30 (f := .glo "_law_spoilt") rfl)
  obtain ⟨fd__law_told, D__law_told⟩ := S.t.d.def_ 31 (d := d__law_told) rfl
  have F__law_told := fun_of (x := "_law_told") (st := s__law_told) D__law_told
  have m__law_told := He.glo_ok X N (S.t.d.fact 31 (f := .glo "_law_told") rfl)
  obtain ⟨fd__law_log_amiss, D__law_log_amiss⟩ := S.t.d.def_ 32 (d := d__law_log_amiss) rfl
  have F__law_log_amiss := fun_of (x := "_law_log_amiss") (st := s__law_log_amiss) D__law_log_amiss
  have m__law_log_amiss := He.glo_ok X N (S.t.d.fact 32 (f := .glo "_law_log_amiss") rfl)
  obtain ⟨fd__law_lines_spoilt, D__law_lines_spoilt⟩ := S.t.d.def_ 33 (d := d__law_lines_spoilt) rfl
  have F__law_lines_spoilt := fun_of (x := "_law_lines_spoilt") (st := s__law_lines_spoilt) D__law_lines_spoilt
  have m__law_lines_spoilt := He.glo_ok X N (S.t.d.fact 33 (f := .glo "_law_lines_spoilt") rfl)
  obtain ⟨fd_law, D_law⟩ := S.t.d.def_ 34 (d := d_law) rfl
  have F_law := fun_of (x := "law") (st := s_law) D_law
  have m_law := He.glo_ok X N (S.t.d.fact 34 (f := .glo "law") rfl)
  have g_isinstance := He.free_ok X N (S.t.d.fact 35 (f := .free "isinstance") rfl)
  have g_int := He.free_ok X N (S.t.d.fact 36 (f := .free "int") rfl)
  have g_bool := He.free_ok X N (S.t.d.fact 37 (f := .free "bool") rfl)
  have g_all := He.free_ok X N (S.t.d.fact 38 (f := .free "all") rfl)
  have g_str := He.free_ok X N (S.t.d.fact 39 (f := .free "str") rfl)
  have g_len := He.free_ok X N (S.t.d.fact 40 (f := .free "len") rfl)
  have g_tuple := He.free_ok X N (S.t.d.fact 41 (f := .free "tuple") rfl)
  have g_enumerate := He.free_ok X N (S.t.d.fact 42 (f := .free "enumerate") rfl)
  have g_zip := He.free_ok X N (S.t.d.fact 43 (f := .free "zip") rfl)
  have g_range := He.free_ok X N (S.t.d.fact 44 (f := .free "range") rfl)
  have g_ValueError := He.free_ok X N (S.t.d.fact 45 (f := .free "ValueError") rfl)
  have g_repr := He.free_ok X N (S.t.d.fact 46 (f := .free "repr") rfl)
  have g_list := He.free_ok X N (S.t.d.fact 47 (f := .free "list") rfl)
  have m_StoreError := He.glo_ok X N (S.t.d.fact 48 (f := .glo "StoreError") rfl)
  have m_NoText := He.glo_ok X N (S.t.d.fact 49 (f := .glo "NoText") rfl)
  have m_Waits := He.glo_ok X N (S.t.d.fact 50 (f := .glo "Waits") rfl)
  have m_Ring := He.glo_ok X N (S.t.d.fact 51 (f := .glo "Ring") rfl)
  have m_NoWrite := He.glo_ok X N (S.t.d.fact 52 (f := .glo "NoWrite") rfl)
  have m_NoUse := He.glo_ok X N (S.t.d.fact 53 (f := .glo "NoUse") rfl)
  have m_NoUnique := He.glo_ok X N (S.t.d.fact 54 (f := .glo "NoUnique") rfl)
  have m_NoRow := He.glo_ok X N (S.t.d.fact 55 (f := .glo "NoRow") rfl)
  have m_NoPaper := He.glo_ok X N (S.t.d.fact 56 (f := .glo "NoPaper") rfl)
  have m_LackError := He.glo_ok X N (S.t.d.fact 57 (f := .glo "LackError") rfl)
  have ex0 : exB K = true := S.more
  unfold exB at ex0
  simp only [Bool.and_eq_true] at ex0
  obtain ⟨x0, x1, x2, x3, x4, x5⟩ := ex0
  obtain ⟨fdi_NoText, Di_NoText⟩ := S.t.d.def_ 35 (d := di_NoText) rfl
  have T_NoText := errB_ok PySem.F.excBase_ValueError PySem.F.store_ValueError (by decide +kernel) m_NoText m_StoreError x0
  have e_NoText : Err2 K mg "NoText" "row" "word" := ⟨_, _, _, _, _, _, _, T_NoText, init_NoText T_NoText Di_NoText⟩
  have k_LETTERS := He.str_ok X N (S.t.d.fact 58 (f := .str "LETTERS" "abcdefghijklmnopqrstuvwxyz") rfl)
  have k_MOST_LETTERS := He.int_ok X N (S.t.d.fact 59 (f := .int "MOST_LETTERS" 8) rfl)
  have k_MOST_COLUMNS := He.int_ok X N (S.t.d.fact 60 (f := .int "MOST_COLUMNS" 3) rfl)
  have k_MOST_FIGURES := He.int_ok X N (S.t.d.fact 61 (f := .int "MOST_FIGURES" 9) rfl)
  have k_FIGURES := He.str_ok X N (S.t.d.fact 62 (f := .str "FIGURES" "0123456789") rfl)
  have k_FIRST : GTup K mg "FIRST" ["columns"] := ⟨He.glo_ok X N (S.t.d.fact 63 (f := .glo "FIRST") rfl), x2⟩
  have m_KINDS := He.glo_ok X N (S.t.d.fact 64 (f := .glo "KINDS") rfl)
  have k_KINDS : GTabF K w mg "KINDS" [("writer", "is_figure"), ("figure", "is_figure"), ("number", "is_number"), ("pace", "is_pace"), ("columns", "is_columns"), ("values", "are_values"), ("truth", "is_truth"), ("name", "is_word")] := ⟨⟨m_KINDS, saysT_dic S.t 0⟩, x3⟩
  have m_READERS := He.glo_ok X N (S.t.d.fact 65 (f := .glo "READERS") rfl)
  have k_READERS : GTabF K w mg "READERS" [("values", "values_in"), ("truth", "truth_in"), ("name", "plain_in")] := ⟨⟨m_READERS, saysT_dic S.t 1⟩, x4⟩
  have m_FORMS := He.glo_ok X N (S.t.d.fact 66 (f := .glo "FORMS") rfl)
  have k_FORMS : GTabD K w mg "FORMS" [("begin", []), ("put", ["writer", "values"]), ("turn", ["writer", "number", "values"]), ("strike", ["writer", "number"]), ("done", ["writer"]), ("gone", ["writer"]), ("build", ["name", "figure", "truth"]), ("step", ["name", "pace"]), ("leave", ["name"]), ("drop", ["name"]), ("clean", []), ("crash", [])] := ⟨⟨m_FORMS, saysT_dic S.t 2⟩, x5⟩
  have kit_ : KitE K kt xt := kitLB_ok x1
  have e := hm.symm.trans m_law
  cases e
  refine ⟨fd_law, fun s u => FunD.bindsA (ps := ["_law_script"]) D_law (fun _ _ _ _ _ _ us hl => match us, hl with | [_], _ => rfl) s [u] rfl, fun base KB NB TB => ?_⟩
  have c_is_number : FnC (PySem.Challenge.rw_besideindex_k86_texts_refused).prog w K mg base (tabsT K tfs nm) 1 "is_number" ["thing"] W_is_number := fn_c F_is_number (f_is_number (k := 0) F_is_number g_isinstance g_int g_bool) m_is_number fun _ _ _ _ _ _ us hl => match us, hl with | [_], _ => rfl
  have c_is_word : FnC (PySem.Challenge.rw_besideindex_k86_texts_refused).prog w K mg base (tabsT K tfs nm) 1 "is_word" ["thing"] W_is_word := fn_c F_is_word (f_is_word (k := 0) F_is_word g_all g_isinstance g_str g_len k_LETTERS k_MOST_LETTERS) m_is_word fun _ _ _ _ _ _ us hl => match us, hl with | [_], _ => rfl
  have c_is_figure : FnC (PySem.Challenge.rw_besideindex_k86_texts_refused).prog w K mg base (tabsT K tfs nm) 2 "is_figure" ["thing"] W_is_figure := fn_c F_is_figure (f_is_figure (k := 1) F_is_figure (c_is_number.up (by decide))) m_is_figure fun _ _ _ _ _ _ us hl => match us, hl with | [_], _ => rfl
  have c_is_pace : FnC (PySem.Challenge.rw_besideindex_k86_texts_refused).prog w K mg base (tabsT K tfs nm) 2 "is_pace" ["thing"] W_is_pace := fn_c F_is_pace (f_is_pace (k := 1) F_is_pace (c_is_number.up (by decide))) m_is_pace fun _ _ _ _ _ _ us hl => match us, hl with | [_], _ => rfl
  have c_is_columns : FnC (PySem.Challenge.rw_besideindex_k86_texts_refused).prog w K mg base (tabsT K tfs nm) 3 "is_columns" ["thing"] W_is_columns := fn_c F_is_columns (f_is_columns (k := 2) F_is_columns (c_is_pace.up (by decide)) k_MOST_COLUMNS) m_is_columns fun _ _ _ _ _ _ us hl => match us, hl with | [_], _ => rfl
  have c_are_values : FnC (PySem.Challenge.rw_besideindex_k86_texts_refused).prog w K mg base (tabsT K tfs nm) 2 "are_values" ["thing"] W_are_values := fn_c F_are_values (f_are_values (k := 1) F_are_values (c_is_number.up (by decide)) g_all g_isinstance g_tuple g_len k_MOST_COLUMNS) m_are_values fun _ _ _ _ _ _ us hl => match us, hl with | [_], _ => rfl
  have c_is_truth : FnC (PySem.Challenge.rw_besideindex_k86_texts_refused).prog w K mg base (tabsT K tfs nm) 1 "is_truth" ["thing"] W_is_truth := fn_c F_is_truth (f_is_truth (k := 0) F_is_truth g_isinstance g_bool) m_is_truth fun _ _ _ _ _ _ us hl => match us, hl with | [_], _ => rfl
  have c_is_of : FnC (PySem.Challenge.rw_besideindex_k86_texts_refused).prog w K mg base (tabsT K tfs nm) 4 "is_of" ["form", "thing"] W_is_of := fn_c F_is_of (f_is_of (k := 3) F_is_of (c_is_figure.up (by decide)) (c_is_number.up (by decide)) (c_is_pace.up (by decide)) (c_is_columns.up (by decide)) (c_are_values.up (by decide)) (c_is_truth.up (by decide)) (c_is_word.up (by decide)) m_KINDS m_is_figure m_is_number m_is_pace m_is_columns m_are_values m_is_truth m_is_word k_KINDS) m_is_of fun _ _ _ _ _ _ us hl => match us, hl with | [_, _], _ => rfl
  have c_figures_in : FnC (PySem.Challenge.rw_besideindex_k86_texts_refused).prog w K mg base (tabsT K tfs nm) 1 "figures_in" ["word"] W_figures_in := fn_c F_figures_in (f_figures_in (k := 0) F_figures_in g_int g_len g_all k_MOST_FIGURES k_FIGURES) m_figures_in fun _ _ _ _ _ _ us hl => match us, hl with | [_], _ => rfl
  have c_number_in : FnC (PySem.Challenge.rw_besideindex_k86_texts_refused).prog w K mg base (tabsT K tfs nm) 2 "number_in" ["word"] W_number_in := fn_c F_number_in (f_number_in (k := 1) F_number_in (c_figures_in.up (by decide))) m_number_in fun _ _ _ _ _ _ us hl => match us, hl with | [_], _ => rfl
  have c_values_in : FnC (PySem.Challenge.rw_besideindex_k86_texts_refused).prog w K mg base (tabsT K tfs nm) 3 "values_in" ["word"] W_values_in := fn_c F_values_in (f_values_in (k := 2) F_values_in (c_number_in.up (by decide)) g_tuple) m_values_in fun _ _ _ _ _ _ us hl => match us, hl with | [_], _ => rfl
  have c_truth_in : FnC (PySem.Challenge.rw_besideindex_k86_texts_refused).prog w K mg base (tabsT K tfs nm) 1 "truth_in" ["word"] W_truth_in := fn_c F_truth_in (f_truth_in (k := 0) F_truth_in) m_truth_in fun _ _ _ _ _ _ us hl => match us, hl with | [_], _ => rfl
  have c_plain_in : FnC (PySem.Challenge.rw_besideindex_k86_texts_refused).prog w K mg base (tabsT K tfs nm) 1 "plain_in" ["word"] W_plain_in := fn_c F_plain_in (f_plain_in (k := 0) F_plain_in) m_plain_in fun _ _ _ _ _ _ us hl => match us, hl with | [_], _ => rfl
  have c_thing_in : FnC (PySem.Challenge.rw_besideindex_k86_texts_refused).prog w K mg base (tabsT K tfs nm) 5 "thing_in" ["form", "word"] W_thing_in := fn_c F_thing_in (f_thing_in (k := 4) F_thing_in (c_is_of.up (by decide)) (c_number_in.up (by decide)) (c_values_in.up (by decide)) (c_truth_in.up (by decide)) (c_plain_in.up (by decide)) m_READERS m_number_in m_values_in m_truth_in m_plain_in k_READERS) m_thing_in fun _ _ _ _ _ _ us hl => match us, hl with | [_, _], _ => rfl
  have c_things_in : FnC (PySem.Challenge.rw_besideindex_k86_texts_refused).prog w K mg base (tabsT K tfs nm) 6 "things_in" ["row", "words", "forms"] W_things_in := fn_c F_things_in (f_things_in (k := 5) F_things_in (c_thing_in.up (by decide)) g_tuple g_len g_enumerate e_NoText) m_things_in fun _ _ _ _ _ _ us hl => match us, hl with | [_, _, _], _ => rfl
  have c_line_in : FnC (PySem.Challenge.rw_besideindex_k86_texts_refused).prog w K mg base (tabsT K tfs nm) 7 "line_in" ["row", "line", "can_begin"] W_line_in := fn_c F_line_in (f_line_in (k := 6) F_line_in (c_things_in.up (by decide)) e_NoText k_FIRST m_FORMS k_FORMS) m_line_in fun _ _ _ _ _ _ us hl => match us, hl with | [_, _, _], _ => rfl
  have c_read_row : FnC (PySem.Challenge.rw_besideindex_k86_texts_refused).prog w K mg base (tabsT K tfs nm) 8 "read_row" ["text"] W_read_row := fn_c F_read_row (f_read_row (k := 7) F_read_row (c_line_in.up (by decide))) m_read_row fun _ _ _ _ _ _ us hl => match us, hl with | [_], _ => rfl
  have c_ask_columns : FnC (PySem.Challenge.rw_besideindex_k86_texts_refused).prog w K mg base (tabsT K tfs nm) 6 "ask_columns" ["row", "words", "columns"] W_ask_columns := fn_c F_ask_columns (f_ask_columns (k := 5) F_ask_columns (c_thing_in.up (by decide)) (c_values_in.up (by decide)) g_len g_zip g_all e_NoText m_FORMS k_FORMS) m_ask_columns fun _ _ _ _ _ _ us hl => match us, hl with | [_, _, _], _ => rfl
  have c_read_log : FnC (PySem.Challenge.rw_besideindex_k86_texts_refused).prog w K mg base (tabsT K tfs nm) 8 "read_log" ["lines"] W_read_log := fn_c F_read_log (f_read_log (k := 7) F_read_log (c_line_in.up (by decide)) (c_ask_columns.up (by decide)) g_tuple g_enumerate g_len e_NoText) m_read_log fun _ _ _ _ _ _ us hl => match us, hl with | [_], _ => rfl
  have c__law_feed : FnC (PySem.Challenge.rw_besideindex_k86_texts_refused).prog w K mg base (tabsT K tfs nm) 1 "_law_feed" ["_law_script"] W__law_feed := fn_c F__law_feed (f__law_feed (k := 0) F__law_feed) m__law_feed fun _ _ _ _ _ _ us hl => match us, hl with | [_], _ => rfl
  have c__law_draw : FnC (PySem.Challenge.rw_besideindex_k86_texts_refused).prog w K mg base (tabsT K tfs nm) 1 "_law_draw" ["_law_feed_here", "_law_bound"] W__law_draw := fn_c F__law_draw (f__law_draw (k := 0) F__law_draw g_len) m__law_draw fun _ _ _ _ _ _ us hl => match us, hl with | [_, _], _ => rfl
  have c__law_values : FnC (PySem.Challenge.rw_besideindex_k86_texts_refused).prog w K mg base (tabsT K tfs nm) 2 "_law_values" ["_law_feed_here", "_law_wide"] W__law_values := fn_c F__law_values (f__law_values (k := 1) F__law_values (c__law_draw.up (by decide)) g_range g_tuple) m__law_values fun _ _ _ _ _ _ us hl => match us, hl with | [_, _], _ => rfl
  have c__law_deed : FnC (PySem.Challenge.rw_besideindex_k86_texts_refused).prog w K mg base (tabsT K tfs nm) 3 "_law_deed" ["_law_feed_here", "_law_wide", "_law_begun"] W__law_deed := fn_c F__law_deed (f__law_deed (k := 2) F__law_deed (c__law_draw.up (by decide)) (c__law_values.up (by decide))) m__law_deed fun _ _ _ _ _ _ us hl => match us, hl with | [_, _, _], _ => rfl
  have c__law_opening : FnC (PySem.Challenge.rw_besideindex_k86_texts_refused).prog w K mg base (tabsT K tfs nm) 3 "_law_opening" ["_law_feed_here", "_law_wide"] W__law_opening := fn_c F__law_opening (f__law_opening (k := 2) F__law_opening (c__law_draw.up (by decide)) (c__law_values.up (by decide)) g_range) m__law_opening fun _ _ _ _ _ _ us hl => match us, hl with | [_, _], _ => rfl
  have c__law_line : FnC (PySem.Challenge.rw_besideindex_k86_texts_refused).prog w K mg base (tabsT K tfs nm) 1 "_law_line" ["_law_row"] W__law_line := fn_c F__law_line (f__law_line (k := 0) F__law_line g_isinstance g_bool g_tuple g_str) m__law_line fun _ _ _ _ _ _ us hl => match us, hl with | [_], _ => rfl
  have c__law_number_in : FnC (PySem.Challenge.rw_besideindex_k86_texts_refused).prog w K mg base (tabsT K tfs nm) 1 "_law_number_in" ["_law_word"] W__law_number_in := fn_c F__law_number_in (f__law_number_in (k := 0) F__law_number_in g_int g_len) m__law_number_in fun _ _ _ _ _ _ us hl => match us, hl with | [_], _ => rfl
  have c__law_is_word : FnC (PySem.Challenge.rw_besideindex_k86_texts_refused).prog w K mg base (tabsT K tfs nm) 1 "_law_is_word" ["_law_word"] W__law_is_word := fn_c F__law_is_word (f__law_is_word (k := 0) F__law_is_word g_len) m__law_is_word fun _ _ _ _ _ _ us hl => match us, hl with | [_], _ => rfl
  have c__law_stands : FnC (PySem.Challenge.rw_besideindex_k86_texts_refused).prog w K mg base (tabsT K tfs nm) 2 "_law_stands" ["_law_form", "_law_word", "_law_wide"] W__law_stands := fn_c F__law_stands (f__law_stands (k := 1) F__law_stands (c__law_number_in.up (by decide)) (c__law_is_word.up (by decide)) g_int g_len) m__law_stands fun _ _ _ _ _ _ us hl => match us, hl with | [_, _, _], _ => rfl
  have c__law_forms : FnC (PySem.Challenge.rw_besideindex_k86_texts_refused).prog w K mg base (tabsT K tfs nm) 1 "_law_forms" [] W__law_forms := fn_c F__law_forms (f__law_forms (k := 0) F__law_forms) m__law_forms fun _ _ _ _ _ _ us hl => match us, hl with | [], _ => rfl
  have c__law_amiss : FnC (PySem.Challenge.rw_besideindex_k86_texts_refused).prog w K mg base (tabsT K tfs nm) 3 "_law_amiss" ["_law_line_here", "_law_may_begin", "_law_wide"] W__law_amiss := fn_c F__law_amiss (f__law_amiss (k := 2) F__law_amiss (c__law_stands.up (by decide)) (c__law_forms.up (by decide)) g_len g_enumerate) m__law_amiss fun _ _ _ _ _ _ us hl => match us, hl with | [_, _, _], _ => rfl
  have c__law_spoilt : FnC (PySem.Challenge.rw_besideindex_k86_texts_refused).prog w K mg base (tabsT K tfs nm) 2 "_law_spoilt" ["_law_feed_here", "_law_line_here"] W__law_spoilt := fn_c F__law_spoilt (f__law_spoilt (k := 1) F__law_spoilt (c__law_draw.up (by decide)) g_int g_len) m__law_spoilt fun _ _ _ _ _ _ us hl => match us, hl with | [_, _], _ => rfl
  have c__law_told : FnC (PySem.Challenge.rw_besideindex_k86_texts_refused).prog w K mg base (tabsT K tfs nm) 9 "_law_told" ["_law_reader", "_law_thing"] (W__law_told (He.ga K)) := fn_c F__law_told (f__law_told (k := 8) F__law_told (c_read_row.up (by decide)) (c_read_log.up (by decide)) g_isinstance g_ValueError m_StoreError m_NoText m_Waits m_Ring m_NoWrite m_NoUse m_NoUnique m_NoRow m_NoPaper m_LackError kit_ m_read_row m_read_log) m__law_told fun _ _ _ _ _ _ us hl => match us, hl with | [_, _], _ => rfl
  have c__law_log_amiss : FnC (PySem.Challenge.rw_besideindex_k86_texts_refused).prog w K mg base (tabsT K tfs nm) 4 "_law_log_amiss" ["_law_lines"] W__law_log_amiss := fn_c F__law_log_amiss (f__law_log_amiss (k := 3) F__law_log_amiss (c__law_amiss.up (by decide)) g_enumerate g_int) m__law_log_amiss fun _ _ _ _ _ _ us hl => match us, hl with | [_], _ => rfl
  have c__law_lines_spoilt : FnC (PySem.Challenge.rw_besideindex_k86_texts_refused).prog w K mg base (tabsT K tfs nm) 3 "_law_lines_spoilt" ["_law_feed_here", "_law_lines"] W__law_lines_spoilt := fn_c F__law_lines_spoilt (f__law_lines_spoilt (k := 2) F__law_lines_spoilt (c__law_spoilt.up (by decide)) (c__law_draw.up (by decide)) g_len) m__law_lines_spoilt fun _ _ _ _ _ _ us hl => match us, hl with | [_, _], _ => rfl
  exact f_law (k := 9) F_law (c__law_lines_spoilt.up (by decide)) (c__law_told.up (by decide)) (c__law_log_amiss.up (by decide)) (c__law_spoilt.up (by decide)) (c__law_amiss.up (by decide)) (c__law_line.up (by decide)) (c__law_opening.up (by decide)) (c__law_deed.up (by decide)) (c__law_draw.up (by decide)) (c__law_feed.up (by decide)) g_range g_repr g_list g_str m_read_log m_read_row
end DL.G
open PySem PySem.W PySem.Calls PyProof.Rows
theorem PySem.Challenge.cw_besideindex_k86_texts_refused_holds : PySem.Challenge.rw_besideindex_k86_texts_refused.Holds := by
  w_on; o_law
  refine HandSHeadRun.head_any (r := OpenLaw.row PySem.Challenge.rw_besideindex_k86_texts_refused) (q := view (OpenLaw.row PySem.Challenge.rw_besideindex_k86_texts_refused).prog [58]) (H := DL.G.hk) (ob := DL.G.ob) (M := 8000) (loose := DL.G.loose)
    (d := HandSHeadRun.topDef (OpenLaw.row PySem.Challenge.rw_besideindex_k86_texts_refused).prog 58) (kwd := []) DL.G.ob_eq
    (by kernel_rfl) (fun s => by kernel_rfl) DL.G.run (by kernel_rfl) (by kernel_rfl) (by kernel_rfl) (by rfl) (by first | assumption | decide +kernel) (by decide +kernel) ⟨rfl, rfl, rfl, rfl, rfl, by decide +kernel⟩ ?hw ?hc
  case hw => w_witness2
  case hc =>
    refine DL.walk_gY (l := PySem.Challenge.rw_besideindex_k86_texts_refused) (n := 63) (k := 10) (x := "_law_script") (nm := DL.G.nm) (W := DL.G.W_law) rfl (by decide) (by kernel_rfl) ⟨rfl, by decide, by decide⟩ ?F DL.G.law_pure
    intro w mg fa h K X N hmg0 S
    have hmg : mg ("law" : PySem.Str) = some (.ref fa) := by
      have e : (HandSHeadRun.topDef (OpenLaw.row PySem.Challenge.rw_besideindex_k86_texts_refused).prog 58).name = ("law" : PySem.Str) := by kernel_rfl
      rw [← e]
      exact hmg0
    exact DL.G.facts X N hmg S
