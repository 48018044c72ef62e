import PyProof.Rows.All
import Wide.All
import OpenK.AllK
import Wide.FinOn
import HandS.ForMost
import HandS.Exc
import HandS.ExcOwn
import HandS.TryOnly
import HandS.WordsExc
import HandS.Deep
import HandS.SortKw
import HandS.IsInst
import HandS.Zip
import HandS.Walk
import HandS.Style
import HandS.Flow
import HandS.Conv
import HandS.SortOrd
import HandS.Evl
import HandS.Lambda
import HandS.Rev
import HandS.TupAny
import HandS.TupSets
import HandS.SortRule
import HandS.Defaults
import HandS.AnyAll
import HandS.RevRange
import HandS.DictComp
import HandS.Strs
import HandS.Small
import HandS.TupLe
import HandS.DictTup
import HandS.SetKeys
import HandS.HeadHook1
import KE.SortData
import KE.SortKeyHeap
import KE.KDictKeyed
import HandS.EndTab
import HandS.HeadWalk
import PyProof.ReprRoads
import KE.KExcInit
import HandS.ExcInit
import HandS.ClsMeth
import HandS.ExcField
import HandS.ExcIs
import KE.KExcIs
import HandS.HeadHook4
import HandS.Head2
import HandS.HeadEnd
import HandS.ExcValue
import PyProof.TupleOfSeq
import HandS.MakeKwOnly
import KE.GoesEnum
import KE.DataMinMax
import HandS.SetFor
import KE.DataEq
import HandS.TupMul
import HandS.Iter
import PyProof.LongRange
import KE.KTryMore
import HandS.HotCalls
import HandS.Text
import PyProof.StrBlock2
import KE.GoesComp
import KE.GoesMore
import KE.DataFind
import KE.KDictZip
import PyProof.ListNew
import KE.KDictWalk
import KE.KDictSum
import HandS.TupLen
import PyProof.DictMoreH
import PyProof.AutoSeq1
import KE.GoesEnumKw
import HandS.FStr
import KE.KCallOwn
import KE.GoesZip
import PyProof.DictUpdate
import PyProof.Rows.SortShellAny
import KE.KDictCopyH
import KE.KDictExact
import HandS.TryMany
import KE.GoesSet
import KE.KDictLaws
import KE.KAssignIn
import KE.KDictPairs
import Lean
import PySem.Challenge.RW_besideindex_k48_rings_judged
set_option Elab.async false
set_option linter.all false
set_option maxRecDepth 100000
set_option maxHeartbeats 4000000
namespace DL
open PySem PySem.Spec PyProof.Rows L2
set_option autoImplicit true

abbrev QRow := List Int × Addr × V
abbrev QVal := List Int × Addr × Value
def entQ (x : QVal) : DictEntry := ⟨PySem.reduceHash (Builtin.Tuple.tupleHashOf (x.1.map PySem.hashInt)), .ref x.2.1, x.2.2⟩
def cellQ (h : Heap) (a : Addr) (xs : List QVal) : Prop := ∃ o es ep, h.get? a = some o ∧ o.ExactDict ∧ o.data = .dict es ep ∧ es.toList = xs.map entQ
abbrev QT : List QRow → List QVal → Prop := Paired fun p q => p.1 = q.1 ∧ p.2.1 = q.2.1 ∧ RelV p.2.2 q.2.2
def TDp (a : Addr) (L : List QRow) (h : Heap) : Prop := L.length ≤ sizeLine ∧ (a == sysModules) = false ∧ ∃ xs : List QVal, QT L xs ∧ (xs.map (·.1)).Nodup ∧ cellQ h a xs
section
variable {X : Cx} {pins : List (Addr × Obj)} {σ : L2.St} {H : Hp} {s : Shared} {a b : Addr} {L : List QRow} {k : List Int} {A : Around} {E : Value → Shared → Prop}
end
end DL
namespace DL
open PySem PySem.Spec PyProof.Rows L2
set_option autoImplicit true

inductive SV where
  | d (x : PyData)
  | own (a : Addr)
/-- what is one's own: a list of data; a list, a tuple, a dict, an instance with whatever within -/
inductive MO where
  | lst (xs : List PyData)
  | seq (xs : List SV)
  | tpl (xs : List SV)
  | dct (ps : List (Key × SV))
  | dcT (a : Addr) (ps : List (List Int × PyData))
  | dcl (o : Obj) (kvs : List (Key × V)) (ps : List (Key × SV))
  | ins (C : Str) (fs : List (Str × SV))
  | ptp (xs : List PyData)
abbrev MH := Addr → Option MO
abbrev DSt := List (Option SV)
abbrev DK := SV → MH → Prop
/-- one's own things but plain tuples are not read as data -/
def hid : Option MO → Bool
  | none => false
  | some (.ptp _) => false
  | some _ => true
theorem hid_put {h : MH} {a : Addr} (n : h a = none) : hid (h a) = false := by rw [n]; rfl
def Fzx (x : List Addr) (H : Hp) (h : MH) : Hp := fun a => if a ∈ x then none else if hid (h a) = true then none else match H a with
  | some (.tbl _) => none
  | o => o
theorem Fz.ofH {x : List Addr} {H : Hp} {h : MH} {a : Addr} {o : HO} (e : H a = some o) (n : hid (h a) = false) (nx : a ∉ x) (nt : ∀ ps, o ≠ .tbl ps := by intro ps z; cases z) : Fzx x H h a = some o := by
  unfold Fzx; rw [if_neg nx, if_neg (by rw [n]; exact Bool.false_ne_true), e]
  cases o <;> first | rfl | exact absurd rfl (nt _)
theorem Fz.of {x : List Addr} {H : Hp} {h : MH} {a : Addr} {o : HO} (e : H a = some o) (n : h a = none) (nx : a ∉ x) (nt : ∀ ps, o ≠ .tbl ps := by intro ps z; cases z) : Fzx x H h a = some o := Fz.ofH e (hid_put n) nx nt
theorem Fz.to {x : List Addr} {H : Hp} {h : MH} {a : Addr} {o : HO} (e : Fzx x H h a = some o) : H a = some o ∧ hid (h a) = false ∧ a ∉ x ∧ ∀ ps, o ≠ .tbl ps := by
  unfold Fzx at e
  by_cases m : a ∈ x
  · rw [if_pos m] at e; cases e
  · rw [if_neg m] at e
    cases q : hid (h a) with
    | true => rw [if_pos q] at e; cases e
    | false =>
      rw [if_neg (by rw [q]; exact Bool.false_ne_true)] at e
      have e' : (match H a with
        | some (.tbl _) => none
        | o => o) = some o := e
      cases r : H a with
      | none => rw [r] at e'; cases e'
      | some u =>
        rw [r] at e'
        cases u <;> first | (cases e'; exact ⟨rfl, rfl, m, fun _ z => by cases z⟩) | cases e'

abbrev Sub (H H' : Hp) : Prop := ∀ a o, H a = some o → H' a = some o
theorem rd_up {H H' : Hp} {a : Addr} {u : HO} (e : Sub H H') (r : Rd H a u) : Rd H' a u := by
  rcases r with r | ⟨o, r⟩
  · exact .inl (e _ _ r)
  · exact .inr ⟨o, e _ _ r⟩
theorem sqL_up {K : PySem.W.Frag} {H H' : Hp} {a : Addr} {xs : List V} (e : Sub H H') (r : SqL K H a xs) : SqL K H' a xs := r.imp (rd_up e) id
theorem sqT_up {K : PySem.W.Frag} {H H' : Hp} {a : Addr} {xs : List V} (e : Sub H H') (r : SqT K H a xs) : SqT K H' a xs := r.imp (rd_up e) id
mutual
theorem dp_up {K : PySem.W.Frag} {H H' : Hp} (e : Sub H H') : ∀ (d : PyData) (v : V), Dp K H v d → Dp K H' v d
  | .none, _, h => by cases h; exact .non
  | .bool b, _, h => by cases h; exact .bl b
  | .int i, _, h => by cases h; exact .int i
  | .str x, _, h => by cases h; exact .str x
  | .list ds, _, h => by
    cases h with
    | lst h1 h2 => exact .lst (sqL_up e h1) (dps_up e ds _ h2)
  | .tuple ds, _, h => by
    cases h with
    | tup h1 h2 => exact .tup (sqT_up e h1) (dps_up e ds _ h2)
  | .dict _, _, h => by cases h
theorem dps_up {K : PySem.W.Frag} {H H' : Hp} (e : Sub H H') : ∀ (ds : List PyData) (vs : List V), DpAll K H vs ds → DpAll K H' vs ds
  | [], _, h => by cases h; exact .nil
  | d :: ds, _, h => by
    cases h with
    | cons h1 h2 => exact .cons (dp_up e d _ h1) (dps_up e ds _ h2)
end
section
variable {K : PySem.W.Frag} {H H' : Hp}
end

structure PXx (x : List Addr) (H : Hp) (h : MH) (H' : Hp) (h' : MH) : Prop where
  ex : Sub (Fzx x H h) (Fzx x H' h')
  kx : ∀ a, a ∈ x → H' a = H a
/-- what a derivation leans on: lists that are being made (not to be read), tables of code objects, what stays true -/
structure GI where
  x : List Addr
  T : List (Addr × Str)
  G : Hp → MH → Prop
  st : ∀ {H h H' h'}, PXx x H h H' h' → G H h → G H' h'
abbrev Fz (Γ : GI) (H : Hp) (h : MH) : Hp := Fzx Γ.x H h
abbrev PX (Γ : GI) (H : Hp) (h : MH) (H' : Hp) (h' : MH) : Prop := PXx Γ.x H h H' h'
def RV (K : PySem.W.Frag) (Γ : GI) (H : Hp) (h : MH) (x : SV) (v : V) : Prop := match x with
  | .d d => Dp K (Fz Γ H h) v d
  | .own a => v = .ref a
def RVF (K : PySem.W.Frag) (F : Hp) (x : SV) (v : V) : Prop := match x with
  | .d d => Dp K F v d
  | .own a => v = .ref a
def RPF {κ : Type} (K : PySem.W.Frag) (F : Hp) (p : κ × SV) (q : κ × V) : Prop := p.1 = q.1 ∧ RVF K F p.2 q.2
/-- rows of a dict whose keys are tuples of ints -/
def RQF (K : PySem.W.Frag) (F : Hp) (p : List Int × PyData) (q : QRow) : Prop := p.1 = q.1 ∧ SqT K F q.2.1 (q.1.map V.int) ∧ Dp K F q.2.2 p.2
/-- content beside content -/
def ROF (K : PySem.W.Frag) (F : Hp) : MO → HO → Prop
  | .lst xs, .lst vs => DpAll K F vs xs
  | .seq xs, .lst vs => Paired (RVF K F) xs vs
  | .tpl xs, .tup vs => Paired (RVF K F) xs vs
  | .dct ps, .dK kvs => Paired (RPF K F) ps kvs
  | .dcl o kvs ps, .frz o' u => o' = o ∧ u = .dK kvs ∧ Paired (RPF K F) ps kvs
  | .dcT a ps, .ext φ => ∃ L, φ = TDp a L ∧ Paired (RQF K F) ps L
  | .ins C fs, .ins C' _ gs => C' = He.ga K C ∧ Paired (RPF K F) fs gs
  | .ptp xs, .frz o u => o.dict = none ∧ ∃ vs, u = .tup vs ∧ DpAll K F vs xs
  | _, _ => False
def RO (K : PySem.W.Frag) (Γ : GI) (H : Hp) (h : MH) (a : Addr) (o : MO) : Prop := match o with
  | .lst xs => ∃ vs, H a = some (.lst vs) ∧ DpAll K (Fz Γ H h) vs xs
  | o => ∃ u, H a = some u ∧ ROF K (Fz Γ H h) o u
theorem ro_at {K : PySem.W.Frag} {Γ : GI} {H : Hp} {h : MH} {a : Addr} {o : MO} (r : RO K Γ H h a o) : ∃ u, H a = some u ∧ ROF K (Fz Γ H h) o u := by
  cases o with
  | lst xs =>
    obtain ⟨vs, e, q⟩ := r
    exact ⟨_, e, q⟩
  | _ => exact r
structure RM (K : PySem.W.Frag) (Γ : GI) (H : Hp) (h : MH) : Prop where
  ob : ∀ a o, h a = some o → RO K Γ H h a o
  g : Γ.G H h
  nx : ∀ a, a ∈ Γ.x → h a = none ∧ ∃ xs, H a = some (.lst xs)
  tb : LamX.Tabs Γ.T H
theorem PXx.refl {x : List Addr} {H : Hp} {h : MH} : PXx x H h H h := ⟨fun _ _ e => e, fun _ _ => rfl⟩
theorem PXx.trans {x : List Addr} {H H1 H2 : Hp} {h h1 h2 : MH} (a : PXx x H h H1 h1) (b : PXx x H1 h1 H2 h2) : PXx x H h H2 h2 := ⟨fun x o e => b.ex x o (a.ex x o e), fun p hp => (b.kx p hp).trans (a.kx p hp)⟩
theorem PX.refl {H : Hp} {h : MH} : PX Γ H h H h := PXx.refl
theorem RM.tracked {K : PySem.W.Frag} {H : Hp} {h : MH} (r : RM K Γ H h) {a : Addr} (n : H a = none) : h a = none := by
  cases q : h a with
  | none => rfl
  | some o =>
    obtain ⟨u, e, _⟩ := ro_at (r.ob a o q)
    rw [n] at e; cases e
def RSt (K : PySem.W.Frag) (Γ : GI) (H : Hp) (h : MH) (σd : DSt) (σ : L2.St) : Prop := σd.length = σ.length ∧ ∀ (i : Nat) (x : SV), σd[i]? = some (some x) → ∃ v, σ[i]? = some (some v) ∧ RV K Γ H h x v
section
variable {K : PySem.W.Frag} {H H' : Hp} {h h' : MH} {σd : DSt} {σ : L2.St}
theorem RSt.set {i : Nat} {x : SV} {v : V} (r : RSt K Γ H h σd σ) (rv : RV K Γ H h x v) : RSt K Γ H h (σd.set i (some x)) (σ.set i (some v)) := by
  refine ⟨by simp [r.1], fun j y e => ?_⟩
  by_cases q : i = j
  · subst q
    by_cases l : i < σd.length
    · rw [List.getElem?_set_self l] at e
      cases e
      exact ⟨v, by rw [List.getElem?_set_self (by rw [← r.1]; exact l)], rv⟩
    · rw [List.getElem?_eq_none (by simpa using l)] at e; cases e
  · rw [List.getElem?_set_ne q] at e
    obtain ⟨w, e1, e2⟩ := r.2 j y e
    exact ⟨w, by rw [List.getElem?_set_ne q]; exact e1, e2⟩
end

section
variable {X : Cx} {a b c e : Expr} {pos : Pos}
end
end DL

namespace DL
open PySem PySem.Spec PyProof.Rows L2
set_option autoImplicit true

section
variable {K : PySem.W.Frag} {H : Hp} {h : MH} {x y : SV} {v : V}
end

section
variable {K : PySem.W.Frag}
end

/-- data as a whole: what is one's own is looked through -/
def asD (h : MH) (x : SV) : Option PyData := match x with
  | .d d => some d
  | .own a => match h a with
    | some (.lst xs) => some (.list xs)
    | _ => none
section
variable {K : PySem.W.Frag}
def isNone : SV → Bool
  | .d .none => true
  | _ => false
end

section
variable {X : Cx} {a b c e : Expr} {pos p2 : Pos} {ta tb tc te : DTE} {t : DTA} {es : List Expr}
end
end DL

namespace DL
open PySem PySem.Spec PyProof.Rows L2
set_option autoImplicit true

structure DEnds where
  nx : DSt → MH → Prop
  rt : DK
  bk : DSt → MH → Prop
  ct : DSt → MH → Prop
abbrev DTS := DEnds → DSt → MH → Prop
section
variable {X : Cx} {a b c e : Expr} {pos p2 : Pos} {ta tb tc te : DTE} {t u : DTS} {st : Stmt} {rest : List Stmt} {es : List Expr}
section
variable {prog : Program} {w : World} {A : Around} {EX : Value → Shared → Prop} {s : Shared} {env : Env}
end
end
end DL

namespace DL
open PySem PySem.Spec PyProof.Rows L2
set_option autoImplicit true

structure DExc where
  cls : Str
  fs : List (Str × PyData)
def RX (K : PySem.W.Frag) (Γ : GI) (H : Hp) (h : MH) (x : DExc) (cls : Value) (d : Option Addr) : Prop :=
  cls = .ref (He.ga K x.cls) ∧ ((d = none ∧ x.fs = []) ∨ ∃ dd vs, d = some dd ∧ Fz Γ H h dd = some (.xd vs) ∧ Paired (fun (p : Str × PyData) (q : Str × V) => p.1 = q.1 ∧ Dp K (Fz Γ H h) q.2 p.2) x.fs vs)
def G0 (xs : List Addr) (T : List (Addr × Str)) : GI := ⟨xs, T, fun _ _ => True, fun _ _ => trivial⟩
theorem rx_up {K : PySem.W.Frag} {H H' : Hp} {h h' : MH} {x : DExc} {cls : Value} {d : Option Addr} (p : PX Γ H h H' h') (r : RX K Γ H h x cls d) : RX K Γ H' h' x cls d := by
  obtain ⟨e, r⟩ := r
  refine ⟨e, r.imp id ?_⟩
  rintro ⟨dd, vs, e1, e2, e3⟩
  exact ⟨dd, vs, e1, p.ex _ _ e2, Paired.mapP e3 fun _ _ z => ⟨z.1, dp_up p.ex _ _ z.2⟩⟩
section
variable {P : Program} {w : World} {K : PySem.W.Frag} {mg : Str → Option Value} {base : Heap}
end

section
variable {X : Cx} {k : Nat} {f : Addr} {fd : FuncData} {ps : List Str} {W : DSp} {E : DXS} {x : Str} {p pos : Pos} {e : Expr} {es : List Expr} {t : DTA}
end
end DL

namespace DL
open PySem PySem.Spec PyProof.Rows L2
set_option autoImplicit true

/-- a tuple that begins with the ints ns, and the values behind them -/
def HdAt (h : Heap) (v : Value) (ns : List Int) (rest : List Value) : Prop := ∃ a o n is, v = .ref a ∧ h.get? a = some o ∧ o.cls = .type "tuple" ∧ o.data = .seq (is ++ rest).toArray n ∧ IntsAre is ns
theorem HdAt.keeps {h h' : Heap} {v : Value} {ns : List Int} {r : List Value} (a : HdAt h v ns r) (k : ∀ b o, h.get? b = some o → o.cls = .type "tuple" → h'.get? b = some o) : HdAt h' v ns r := by
  obtain ⟨p, o, n, is, e, h1, h2, h3, h4⟩ := a
  exact ⟨p, o, n, is, e, k _ _ h1 h2, h2, h3, h4⟩
open Classical in
section
variable {prog : Program} {w : World} {A : Around} {E : Value → Shared → Prop} {s : Shared}
end
end DL

namespace DL
open PySem PySem.Spec PyProof.Rows L2
set_option autoImplicit true

section
variable {prog : Program} {w : World} {A : Around} {s : Shared}
/-- v, a tuple that begins with the ints p, r -/
def Hd2 (h : Heap) (v : Value) (p r : Int) : Prop := ∃ a its, v = .ref a ∧ IsTup h a its ∧ ∃ t u : Tok, its[0]? = some (.int p t) ∧ its[1]? = some (.int r u)
theorem Hd2.keeps {h h' : Heap} {v : Value} {p r : Int} (k : ∀ b o, h.get? b = some o → h'.get? b = some o) (x : Hd2 h v p r) : Hd2 h' v p r := by
  obtain ⟨a, its, e, ⟨o, g1, g2, n, g3⟩, y⟩ := x
  exact ⟨a, its, e, ⟨o, k _ _ g1, g2, n, g3⟩, y⟩
end

section
variable {prog : Program} {w : World} {A : Around} {EX : Value → Shared → Prop} {s : Shared} {β : Type} {vs : List Value} {bs : List β} {R : Value → β → Prop}
open PySem.W in
end
end DL

namespace DL
open PySem PySem.Spec PyProof.Rows L2
set_option autoImplicit true

/-- what is tracked ahead of the call: empty tables; the script, if it is no object of the module -/
def hpTop (K : PySem.W.Frag) (ts : List Addr) (a : Addr) (o : Obj) (u : HO) : Hp := fun x => if x ∈ ts then some (.tbl #[]) else if x = a ∧ (K.lookup a).isNone = true then some (.frz o u) else none
theorem hpTop_cases {K : PySem.W.Frag} {ts : List Addr} {a x : Addr} {o : Obj} {u z : HO} (e : hpTop K ts a o u x = some z) : (x ∈ ts ∧ z = .tbl #[]) ∨ (x ∉ ts ∧ x = a ∧ K.lookup a = none ∧ z = .frz o u) := by
  unfold hpTop at e
  split at e
  · rename_i m
    cases e
    exact .inl ⟨m, rfl⟩
  · rename_i m
    split at e
    · rename_i q
      cases e
      exact .inr ⟨m, q.1, Option.isNone_iff_eq_none.mp q.2, rfl⟩
    · cases e
structure TopOk (K : PySem.W.Frag) (mg mb : Str → Option Value) (cs : List (Addr × Addr)) (t : Shared) (a : Addr) (vs : List Value) (ns : List Int) : Prop where
  kin : K.In t.heap
  glo : t.heap.Ns mainGlobals mg
  blt : t.heap.Ns builtinsNs mb
  bltX : ∀ y : Str, y ≠ "__name__" → mb y = bootBuiltins y
  lim : t.heap.NoLimit
  gen : t.gens = #[]
  tab : ∀ c ∈ cs, t.heap.get? c.2 = some { cls := .none, data := .fields #[] }
  tabK : ∀ c ∈ cs, K.lookup c.2 = none
  cod : ∀ c ∈ cs, PySem.W.CodeHd t.heap c.1 c.2
  mod : ∃ (m : Addr) (o : Obj), mg "__builtins__" = some (.ref m) ∧ m ≠ builtinsNs ∧ t.heap.get? m = some o ∧ o.cls = .type "module" ∧ o.dict = some builtinsNs ∧ o.data = .plain
  scr : t.heap.get? a = some { cls := .type "list", data := .seq vs.toArray }
  int : IntsAre vs ns
  len : ns.length ≤ sizeLine
section
variable {P : Program} {w : World} {K : PySem.W.Frag} {mg mb : Str → Option Value} {cs : List (Addr × Addr)} {t : Shared} {a : Addr} {vs : List Value} {ns : List Int}
abbrev topHp (K : PySem.W.Frag) (cs : List (Addr × Addr)) (a : Addr) (vs : List Value) (ns : List Int) : Hp := hpTop K (cs.map (·.2)) a { cls := .type "list", data := .seq vs.toArray } (.lst (ns.map V.int))
theorem TopOk.isTab (G : TopOk K mg mb cs t a vs ns) {x : Addr} (m : x ∈ cs.map (·.2)) : t.heap.get? x = some { cls := .none, data := .fields #[] } ∧ K.lookup x = none := by
  obtain ⟨c, hc, rfl⟩ := List.mem_map.mp m
  exact ⟨G.tab c hc, G.tabK c hc⟩
/-- what is no list, no empty table, is not tracked -/
theorem TopOk.free (G : TopOk K mg mb cs t a vs ns) {x : Addr} {o : Obj} (e : t.heap.get? x = some o) (h1 : ∀ us n, o.data ≠ .seq us n) (h2 : o.data ≠ .fields #[]) : topHp K cs a vs ns x = none := by
  cases q : topHp K cs a vs ns x with
  | none => rfl
  | some u =>
    rcases hpTop_cases q with ⟨m, _⟩ | ⟨_, ea, _, _⟩
    · rw [(G.isTab m).1] at e
      cases e
      exact (h2 rfl).elim
    · rw [ea, G.scr] at e
      cases e
      exact (h1 _ _ rfl).elim
end
end DL

namespace DL
open PySem PySem.Spec PyProof.Rows L2
set_option autoImplicit true

def GI.at (Γ : GI) (H0 : Hp) (h0 : MH) : GI where
  x := Γ.x
  T := Γ.T
  G := fun H h => Γ.G H h ∧ PXx Γ.x H0 h0 H h
  st := fun p q => ⟨Γ.st p q.1, q.2.trans p⟩
theorem RM.at {K : PySem.W.Frag} {H : Hp} {h : MH} (r : RM K Γ H h) : RM K (Γ.at H h) H h := ⟨r.ob, ⟨r.g, PXx.refl⟩, r.nx, r.tb⟩
/-- where an exception is held -/
def GI.exc (Γ : GI) (K : PySem.W.Frag) (y : DExc) (cls : Value) (d : Option Addr) : GI where
  x := Γ.x
  T := Γ.T
  G := fun H h => Γ.G H h ∧ RX K (G0 Γ.x Γ.T) H h y cls d
  st := fun p q => ⟨Γ.st p q.1, rx_up (Γ := G0 Γ.x Γ.T) p q.2⟩
abbrev clrN (i : Nat) (D : DEnds) : DEnds := { nx := fun σ' h' => D.nx (σ'.set i none) h', rt := D.rt, bk := fun σ' h' => D.bk (σ'.set i none) h', ct := fun σ' h' => D.ct (σ'.set i none) h' }
section
variable {X : Cx} {x n : Str} {cv : Value} {i : Nat} {body suite : List Stmt} {b₀ : Stmt} {np pos pos' : Pos} {kt : Str → Str → Option Bool} {tb : DXS → DTS} {ts : Addr → DExc → DTS} {Eo : DXS}
end

/-- a class by its name -/
def btV (n : Str) : Option Value := if n = "LookupError" then some (.type "LookupError") else if n = "ValueError" then some (.type "ValueError") else if n = "Exception" then some (.type "Exception") else none
def cvK (K : PySem.W.Frag) (n : Str) : Value := match btV n with
  | some v => v
  | none => .ref (He.ga K n)
def anyK (kt : Str → Str → Option Bool) (c : Str) : List Str → Option Bool
  | [] => some false
  | n :: r => match kt c n with
    | some true => some true
    | some false => anyK kt c r
    | none => none
/-- what the written part says of the law's own error classes -/
structure KitE (K : PySem.W.Frag) (kt : Str → Str → Option Bool) (xt : Str → Str → Bool) : Prop where
  exc : ∀ c n b, kt c n = some b → ExcC K (He.ga K c)
  exm : ∀ c n b, kt c n = some b → PySem.W.exmOne K (.ref (He.ga K c)) (cvK K n) = some b
  kit : ∀ c n b, kt c n = some b → PySem.W.kitOne K (.ref (He.ga K c)) (cvK K n) = some b
  xf : ∀ c f, xt c f = true → XfC K (He.ga K c) ∧ PySem.W.findIn K (.ref (He.ga K c)) f = some none
theorem KitE.any {K : PySem.W.Frag} {kt : Str → Str → Option Bool} {xt : Str → Str → Bool} (T : KitE K kt xt) {c : Str} : ∀ {ns : List Str} {b : Bool}, anyK kt c ns = some b → PySem.W.kitAny K (.ref (He.ga K c)) (ns.map (cvK K)) = some b
  | [], b, h => h
  | n :: r, b, h => by
    unfold anyK at h
    show PySem.W.kitAny K _ (cvK K n :: r.map (cvK K)) = _
    split at h
    · rename_i e
      unfold PySem.W.kitAny
      rw [T.kit _ _ _ e]
      exact h
    · rename_i e
      unfold PySem.W.kitAny
      rw [T.kit _ _ _ e]
      exact T.any h
    · cases h
section
variable {X : Cx} {n x : Str} {pos p : Pos} {e : Expr} {es : List Expr} {ns : List Str}
end
section
variable {X : Cx} {Γ1 : GI} {kt : Str → Str → Option Bool} {xt : Str → Str → Bool} {a : Addr} {oe : Obj} {y : DExc} {d : Option Addr} {pn : List (Addr × Obj)} {x n f : Str} {pos p p1 p2 : Pos} {c e : Expr} {es : List Expr} {ns : List Str}
end
end DL

namespace DL
open PySem PySem.Spec PyProof.Rows L2
set_option autoImplicit true

def clsB (K : PySem.W.Frag) (C : Addr) (bmB : List Value) (newId : String) : Bool := match K.lookup C with
  | some ⟨.type "type", _, .cls cd, sl⟩ => (match cd.mro, sl.toList with
    | .ref C' :: bm, [_, _, _, _, some (.builtin n), _] => C' == C && (n == newId && (!cd.hasDel && (cd.hasDict && PySem.W.excTail bmB bm)))
    | _, _ => false)
  | _ => false
def fcB (K : PySem.W.Frag) (Cb : Addr) (initId : String) : Bool := match PySem.W.findCls K (.ref Cb) (.type "type") "__init__" with
  | some (.val (.builtin i)) => i == initId
  | _ => false
def errB (K : PySem.W.Frag) (x base : Str) (fs : List Str) (bmB : List Value) (newId initId : String) : Bool :=
  clsB K (He.ga K x) bmB newId && (PySem.W.excOver K (He.ga K x) bmB && (decide (PySem.W.findIn K (.ref (He.ga K x)) "__setattr__" = some (some (.builtin "object.__setattr__"))) && (decide (PySem.W.findIn K (.ref (He.ga K x)) "__getattribute__" = some (some (.builtin "BaseException.__getattribute__"))) &&
  (decide (PySem.W.findIn K (.ref (He.ga K x)) "__getattr__" = some none) && (fs.all (fun f => decide (PySem.W.takerIn K (He.ga K x) f = some none) && decide (PySem.W.findIn K (.ref (He.ga K x)) f = some none)) && (decide (PySem.W.findIn K (.ref (He.ga K x)) "__init__" = some (some (.ref (He.ma K (He.ga K x) "__init__")))) &&
  (decide (PySem.W.typeIn K (.ref (He.ma K (He.ga K x) "__init__")) = some (.type "function")) && (PySem.W.keepIn K (.ref (He.ga K x)) && (decide (PySem.W.subIn K (.ref (He.ga K x)) (.type "BaseException") = some true) && (decide (PySem.W.typeIn K (.ref (He.ga K x)) = some (.type "type")) &&
  (PySem.W.hasDictIn K (He.ga K x) && (PySem.W.readsIn K (He.ga K base) (.type "type") && (decide (PySem.W.specialIn K (.ref (He.ga K base)) "__getattribute__" = some (some (.builtin "type.__getattribute__"))) && fcB K (He.ga K base) initId)))))))))))))
def ktL (l : List (Str × Str × Bool)) : Str → Str → Option Bool := fun c n => (l.find? fun p => p.1 == c && p.2.1 == n).map (·.2.2)
def xtL (l : List (Str × Str)) : Str → Str → Bool := fun c f => l.any fun p => p.1 == c && p.2 == f
def excB (K : PySem.W.Frag) (D : Addr) : Bool :=
  decide (PySem.W.findIn K (.ref D) "__getattribute__" = some (some (.builtin "BaseException.__getattribute__"))) && (decide (PySem.W.findIn K (.ref D) "__getattr__" = some none) && (decide (PySem.W.subIn K (.ref D) (.type "BaseException") = some true) && (PySem.W.hasDictIn K D &&
  (decide (PySem.W.findIn K (.ref D) "__class__" = some (some (.builtin "object.__class__"))) && (decide (PySem.W.specialIn K (.builtin "object.__class__") "__get__" = some (some (.builtin "getset_descriptor.__get__"))) && (decide (PySem.W.takesIn K (.builtin "object.__class__") = some true) && decide (PySem.W.mroIn K D (.type "object") = some true)))))))
def kitLB (K : PySem.W.Frag) (kl : List (Str × Str × Bool)) (xl : List (Str × Str)) : Bool :=
  kl.all (fun p => excB K (He.ga K p.1) && (decide (PySem.W.exmOne K (.ref (He.ga K p.1)) (cvK K p.2.1) = some p.2.2) && decide (PySem.W.kitOne K (.ref (He.ga K p.1)) (cvK K p.2.1) = some p.2.2))) &&
  xl.all fun p => xfB K (He.ga K p.1) && decide (PySem.W.findIn K (.ref (He.ga K p.1)) p.2 = some none)
def asY (g : Addr → Option Obj) (n : Nat) : List Addr := He.asD g n ++ [PySem.cStatics]
abbrev frY (g : Addr → Option Obj) (n : Nat) : PySem.W.Frag := He.frT g (asY g n)
def obsY (n : Nat) (fa : List He.Fa) (fn : List He.DefD) (ts : List He.Tab) (tf : List He.Defn) (ex : PySem.W.Frag → Bool) (g : Addr → Option Obj) : He.AlX :=
  (He.obsT fa fn ts (frY g n), ex (frY g n) && He.tabsB g tf (frY g n))
theorem saysY_of {n : Nat} {fa : List He.Fa} {fn : List He.DefD} {ts : List He.Tab} {tf : List He.Defn} {ex : PySem.W.Frag → Bool} {w : World} {h : Heap} (e : obsY n fa fn ts tf ex h.get? = He.valX fn ts w) : He.SaysX fa fn ts tf ex w h (frY h.get? n) := by
  obtain ⟨K, hK⟩ : ∃ K, K = frY h.get? n := ⟨_, rfl⟩
  have e1 : He.obsT fa fn ts K = He.valT fn ts w := by rw [hK]; exact congrArg (fun z : He.AlX => z.1) e
  have e2 : (ex K && He.tabsB h.get? tf K) = true := by rw [hK]; exact congrArg (fun z : He.AlX => z.2) e
  obtain ⟨h1, h2⟩ := Bool.and_eq_true_iff.mp e2
  have key : ∀ p ∈ tf, PySem.W.codeHdIn K (He.cT K p).1 (He.cT K p).2 = true ∧ ∃ o, h.get? (He.cT K p).2 = some o ∧ He.emptyTab o = true := fun p hp => by
    have z := List.all_eq_true.mp h2 p hp
    obtain ⟨h3, h4⟩ := Bool.and_eq_true_iff.mp z
    refine ⟨h3, ?_⟩
    split at h4
    · rename_i o q
      exact ⟨o, q, h4⟩
    · cases h4
  rw [← hK]
  refine ⟨e1, h1, fun p hp => (key p hp).1, fun p hp => ?_, fun p hp => ?_⟩
  · obtain ⟨_, o, q, z⟩ := key p hp
    have y := He.frT_none (as := asY h.get? n) q z
    rw [hK] at y ⊢
    exact y
  · obtain ⟨_, o, q, z⟩ := key p hp
    rw [q, He.emptyTab_eq z]
def hookY (n : Nat) (fa : List He.Fa) (fn : List He.DefD) (ts : List He.Tab) (tf : List He.Defn) (ex : PySem.W.Frag → Bool) : PySem.W.Hook where
  α := He.AlX
  obs := fun s => obsY n fa fn ts tf ex s.heap.get?
  val := fun w => He.valX fn ts w
  says := (He.hookX n fa fn ts tf ex).says
  of := fun _ _ e => ⟨_, He.frT_in, saysY_of e⟩
  keeps := (He.hookX n fa fn ts tf ex).keeps
theorem obsY_eq {n : Nat} {fa : List He.Fa} {fn : List He.DefD} {ts : List He.Tab} {tf : List He.Defn} {ex : PySem.W.Frag → Bool} {g : Addr → Option Obj} {s : Shared} (h : ∀ a, g a = s.heap.get? a) : obsY n fa fn ts tf ex g = (hookY n fa fn ts tf ex).obs s := by
  obtain rfl : g = s.heap.get? := funext h
  rfl
end DL

namespace DL
open PySem PySem.Spec PyProof.Rows L2
set_option autoImplicit true
structure Cls0 where
  ex : Value → Option Bool
  nm : Option Nat
  ts : Addr → Value → Option Addr → TS
def Cls0.run (c : Cls0) (D : Ends) (a : Addr) (cls : Value) (d : Option Addr) (σ : L2.St) (H : Hp) : Prop := match c.nm with
  | some i => c.ts a cls d { nx := fun σ2 H2 => D.nx (σ2.set i none) H2, rt := D.rt, bk := fun σ2 H2 => D.bk (σ2.set i none) H2, ct := fun σ2 H2 => D.ct (σ2.set i none) H2 } (σ.set i (some (.ref a))) H
  | none => c.ts a cls d D σ H
section
variable {X : Cx} {pins : List (Addr × Obj)} {a : Addr} {B : Heap} {sI s' : Shared} {σ' : L2.St} {H' : Hp} {cls : Value} {d : Option Addr} {g : Heap}
end
structure DCl where
  ns : List Str
  nm : Option Nat
  ts : Addr → DExc → DTS
def DCl.run (c : DCl) (D : DEnds) (a : Addr) (y : DExc) (σ : DSt) (h : MH) : Prop := match c.nm with
  | some i => c.ts a y (clrN i D) (σ.set i (some (.own a))) h
  | none => c.ts a y D σ h
section
variable {X : Cx} {Γ : GI} {kt : Str → Str → Option Bool} {tb : DXS → DTS} {Eo : DXS}
end
section
variable {X : Cx} {x1 x2 x3 x4 x5 : Str} {c1 c2 c3 c4 c5 : Value} {p1 p2 p3 p4 p5 pt : Pos} {kt' : Nat}
end
end DL

namespace DL
open PySem PySem.Spec PyProof.Rows L2
set_option autoImplicit true

def isI (p : Bool) (h : Heap) (a l : Addr) (i : Nat) : Prop := match p with
  | true => h.IsTupleIter a l i
  | false => h.IsListIter a l i
theorem isI.at {p : Bool} {h h' : Heap} {a l : Addr} {i : Nat} (x : isI p h a l i) (e : ∀ o, h.get? a = some o → h'.get? a = some o) : isI p h' a l i := by
  cases p with
  | true => exact Heap.IsTupleIter.at x e
  | false => exact Heap.IsListIter.at x e
section
variable {prog : Program} {w : World} {A : Around} {E : Value → Shared → Prop} {s : Shared} {p q : Bool}
end

section
variable {X : Cx} {a b : Expr} {p pos tpos kpos cp : Pos} {elts : List Expr} {kk ck : Nat} {ta tb : DTE}
end
section
variable {X : Cx} {a b c e : Expr} {p pos p2 tpos kpos cp : Pos} {kk ck : Nat} {ta tb tc te : DTE} {elts : List Expr}
end
section
variable {σ : DSt} {h : MH} {i1 i2 : Nat} {ta tb te : DTE} {tt : DTT} {vs : List Nat} {Q : DK} {QS : List SV → MH → Prop}
end
end DL

namespace DL.G
open PySem PySem.Spec PyProof.Rows L2
set_option autoImplicit true
def top (i : Nat) : Stmt := PySem.Challenge.pw_besideindex_k48_rings_judged.main.body.getD i (.Pass ⟨0, 0, 0, 0⟩)
def ktl : List (Str × Str × Bool) := [("NoPaper", "StoreError", true), ("NoPaper", "NoPaper", true), ("NoPaper", "NoWrite", false), ("NoPaper", "NoUnique", false), ("NoPaper", "Waits", false), ("NoPaper", "ValueError", true), ("NoPaper", "Ring", false), ("NoPaper", "NoUse", false), ("NoPaper", "NoText", false), ("NoPaper", "NoRow", false), ("NoPaper", "LackError", false), ("NoPaper", "NoWriter", false), ("NoPaper", "NoSeen", false), ("NoPaper", "NoOrder", false), ("NoPaper", "NoStep", false), ("NoPaper", "LookupError", false)]
def xtl : List (Str × Str) := [("NoPaper", "word"), ("NoPaper", "at")]
def kt : Str → Str → Option Bool := ktL ktl
def xt : Str → Str → Bool := xtL xtl
abbrev s_is_number : Stmt := top 16
abbrev s_need : Stmt := top 18
abbrev s_lets_ring : Stmt := top 19
abbrev s_led_from : Stmt := top 21
abbrev s_ring_from : Stmt := top 22
abbrev s__law_tape : Stmt := top 24
abbrev s__law_draw : Stmt := top 25
abbrev s__law_bent : Stmt := top 26
abbrev s__law_refused : Stmt := top 27
abbrev s__law_waits : Stmt := top 28
abbrev s__law_due : Stmt := top 29
abbrev s_law : Stmt := top 30
def d_is_number : He.DefD := ⟨("is_number", none), "is_number", "is_number", defArgs s_is_number, defBody s_is_number, defScope s_is_number, [], []⟩
def d_need : He.DefD := ⟨("need", none), "need", "need", defArgs s_need, defBody s_need, defScope s_need, [], []⟩
def d_lets_ring : He.DefD := ⟨("lets_ring", none), "lets_ring", "lets_ring", defArgs s_lets_ring, defBody s_lets_ring, defScope s_lets_ring, [], []⟩
def d_led_from : He.DefD := ⟨("led_from", none), "led_from", "led_from", defArgs s_led_from, defBody s_led_from, defScope s_led_from, [], []⟩
def d_ring_from : He.DefD := ⟨("ring_from", none), "ring_from", "ring_from", defArgs s_ring_from, defBody s_ring_from, defScope s_ring_from, [], []⟩
def d__law_tape : He.DefD := ⟨("_law_tape", none), "_law_tape", "_law_tape", defArgs s__law_tape, defBody s__law_tape, defScope s__law_tape, [], []⟩
def d__law_draw : He.DefD := ⟨("_law_draw", none), "_law_draw", "_law_draw", defArgs s__law_draw, defBody s__law_draw, defScope s__law_draw, [], []⟩
def d__law_bent : He.DefD := ⟨("_law_bent", none), "_law_bent", "_law_bent", defArgs s__law_bent, defBody s__law_bent, defScope s__law_bent, [], []⟩
def d__law_refused : He.DefD := ⟨("_law_refused", none), "_law_refused", "_law_refused", defArgs s__law_refused, defBody s__law_refused, defScope s__law_refused, [], []⟩
def d__law_waits : He.DefD := ⟨("_law_waits", none), "_law_waits", "_law_waits", defArgs s__law_waits, defBody s__law_waits, defScope s__law_waits, [], []⟩
def d__law_due : He.DefD := ⟨("_law_due", none), "_law_due", "_law_due", defArgs s__law_due, defBody s__law_due, defScope s__law_due, [], []⟩
def d_law : He.DefD := ⟨("law", none), "law", "law", defArgs s_law, defBody s_law, defScope s_law, [], []⟩
abbrev si_NoPaper : Stmt := inClass (top 3) 0
def di_NoPaper : He.DefD := ⟨("NoPaper", some "__init__"), "__init__", "NoPaper.__init__", defArgs si_NoPaper, defBody si_NoPaper, defScope si_NoPaper, [], []⟩
def exB (K : PySem.W.Frag) : Bool := errB K "NoPaper" "StoreError" ["word", "at"] [.type "ValueError", .type "Exception", .type "BaseException", .type "object"] "ValueError.__new__" "ValueError.__init__" && (kitLB K ktl xtl)
def fns : List He.DefD := [d_is_number, d_need, d_lets_ring, d_led_from, d_ring_from, d__law_tape, d__law_draw, d__law_bent, d__law_refused, d__law_waits, d__law_due, d_law, di_NoPaper]
def fas : List He.Fa := [.glo "is_number", .glo "need", .glo "lets_ring", .glo "led_from", .glo "ring_from", .glo "_law_tape", .glo "_law_draw", .glo "_law_bent", .glo "_law_refused", .glo "_law_waits", .glo "_law_due", .glo "law", .free "isinstance", .free "int", .free "bool", .free "len", .free "enumerate", .free "tuple", .free "all", .free "dict", .free "str", .free "list", .free "ValueError", .free "LookupError", .free "sorted", .free "range", .free "repr", .glo "StoreError", .glo "LackError", .glo "NoRow", .glo "NoText", .glo "NoUse", .glo "Ring", .glo "Waits", .glo "NoUnique", .glo "NoWrite", .glo "NoPaper", .glo "NoStep", .glo "NoOrder", .glo "NoSeen", .glo "NoWriter"]
def tfs : List He.Defn := [("law", none)]
def nm : He.Defn → Str := fun p => p.1 ++ ".<locals>.<lambda>"
abbrev R : PySem.W.OpenRow := PySem.W.OpenLaw.row PySem.Challenge.rw_besideindex_k48_rings_judged
abbrev hk : PySem.W.Hook := DL.hookY 4 fas fns [] tfs exB
def ob (s : PySem.W.SharedT) : He.AlX := DL.obsY 4 fas fns [] tfs exB (HandSHeadRun.getT s)
theorem ob_eq (s : PySem.W.SharedT) : ob s = hk.obs s.abs := DL.obsY_eq (HandSHeadRun.getT_eq s)
def loose : List Str := (["StoreError", "LackError", "NoPaper", "NoWrite", "NoUnique", "NoUse", "Waits", "Ring", "NoText", "NoRow", "NoWriter", "NoSeen", "NoOrder", "NoStep", "is_number", "need", "lets_ring", "led_from", "ring_from", "_law_tape", "_law_draw", "_law_bent", "_law_refused", "_law_waits", "_law_due"] : List Str)
theorem run (w : World) : HandSHeadRun.RunEq R (PySem.W.view R.prog [30]) hk ob 8000 loose w := by
  intro os
  kernel_rfl
end DL.G
namespace DL
open PySem PySem.Spec PyProof.Rows L2
set_option autoImplicit true

def TD (a : Addr) (L : List QRow) : HO := .ext (TDp a L)
section
variable {X : Cx} {pins : List (Addr × Obj)} {σ : L2.St} {H : Hp} {s : Shared} {a b : Addr} {L : List QRow} {k : List Int} {A : Around} {E : Value → Shared → Prop}
end
/-- no code object is such a dict -/
theorem td_code {c a : Addr} {q : Str} {L : List QRow} : LamX.CodeO c q ≠ TD a L := fun z => by
  have z2 : (fun h : Heap => ∃ (oc : Obj) (vs : Array Value) (t : Tok), h.get? c = some oc ∧ oc.data = .fields vs ∧ vs[1]? = some (.str q t)) = TDp a L := HO.ext.inj z
  obtain ⟨o, ho⟩ : ∃ o : Obj, o = { cls := .none, data := .fields #[.none, .str q 0] } := ⟨_, rfl⟩
  obtain ⟨h, eh, ea⟩ : ∃ h : Heap, h.get? c = some o ∧ h.get? a = some o := ⟨{ objs := Array.replicate (c + a + 1) o }, by
    subst ho
    refine ⟨?_, ?_⟩
    · have z1 : c < c + a + 1 := Nat.lt_succ_of_le (Nat.le_add_right c a)
      simp [Heap.get?, z1]
    · have z1 : a < c + a + 1 := Nat.lt_succ_of_le (Nat.le_add_left a c)
      simp [Heap.get?, z1]⟩
  have y : TDp a L h := by
    rw [← z2]
    exact ⟨o, _, 0, eh, by rw [ho], rfl⟩
  obtain ⟨_, _, xs, _, _, o', es, ep, e1, _, e3, _⟩ := y
  rw [ea] at e1
  cases e1
  rw [ho] at e3
  cases e3
end DL
namespace DL
open PySem PySem.Spec PyProof.Rows L2
set_option autoImplicit true

def mput (h : MH) (a : Addr) (o : MO) : MH := fun b => if b = a then some o else h b
theorem mput_same {h : MH} {a : Addr} {o : MO} : mput h a o a = some o := if_pos rfl
theorem mput_ne {h : MH} {a b : Addr} {o : MO} (n : b ≠ a) : mput h a o b = h b := if_neg n
abbrev DTE := DSt → MH → DK → Prop
abbrev DTT := DSt → MH → (Bool → MH → Prop) → Prop
abbrev DTA := DSt → MH → (List SV → MH → Prop) → Prop
/-- a fresh list's items -/
abbrev DTF := DSt → MH → (List PyData → MH → Prop) → Prop

theorem fz_sub {x : List Addr} {H : Hp} {h : MH} : Sub (Fzx x H h) H := fun _ _ e => (Fz.to e).1
section
variable {K : PySem.W.Frag} {H H' : Hp}
theorem dps_len : ∀ {ds : List PyData} {vs : List V}, DpAll K H vs ds → vs.length = ds.length
  | [], _, h => by cases h; rfl
  | _ :: _, _, h => by
    cases h with
    | cons _ h2 => simp [dps_len h2]
theorem dps_get : ∀ {ds : List PyData} {vs : List V} {i : Nat} {d : PyData}, DpAll K H vs ds → ds[i]? = some d → ∃ v, vs[i]? = some v ∧ Dp K H v d
  | [], _, _, _, _, e => by simp at e
  | x :: ds, _, 0, d, h, e => by
    cases h with
    | cons h1 _ => simp at e; subst e; exact ⟨_, rfl, h1⟩
  | x :: ds, _, i + 1, d, h, e => by
    cases h with
    | cons _ h2 =>
      obtain ⟨v, q1, q2⟩ := dps_get (i := i) (d := d) h2 (by simpa using e)
      exact ⟨v, by simpa using q1, q2⟩
theorem dps_getv : ∀ {ds : List PyData} {vs : List V} {i : Nat} {v : V}, DpAll K H vs ds → vs[i]? = some v → ∃ d, ds[i]? = some d ∧ Dp K H v d
  | [], _, _, _, h, e => by cases h; simp at e
  | x :: ds, _, 0, v, h, e => by
    cases h with
    | cons h1 _ => simp at e; subst e; exact ⟨_, rfl, h1⟩
  | x :: ds, _, i + 1, v, h, e => by
    cases h with
    | cons _ h2 =>
      obtain ⟨d, q1, q2⟩ := dps_getv (i := i) (v := v) h2 (by simpa using e)
      exact ⟨d, by simpa using q1, q2⟩
theorem dps_app : ∀ {ds es : List PyData} {vs ws : List V}, DpAll K H vs ds → DpAll K H ws es → DpAll K H (vs ++ ws) (ds ++ es)
  | [], _, _, _, h, r => by cases h; exact r
  | _ :: _, _, _, _, h, r => by
    cases h with
    | cons h1 h2 => exact .cons h1 (dps_app h2 r)
theorem dps_take : ∀ {ds : List PyData} {vs : List V} (n : Nat), DpAll K H vs ds → DpAll K H (vs.take n) (ds.take n)
  | _, _, 0, _ => by simpa using (DpAll.nil : DpAll K H [] [])
  | [], _, n + 1, h => by cases h; simpa using (DpAll.nil : DpAll K H [] [])
  | _ :: _, _, n + 1, h => by
    cases h with
    | cons h1 h2 => exact .cons h1 (dps_take n h2)
theorem dps_drop : ∀ {ds : List PyData} {vs : List V} (n : Nat), DpAll K H vs ds → DpAll K H (vs.drop n) (ds.drop n)
  | _, _, 0, h => h
  | [], _, n + 1, h => by cases h; simpa using (DpAll.nil : DpAll K H [] [])
  | _ :: _, _, n + 1, h => by
    cases h with
    | cons _ h2 => exact dps_drop n h2
theorem dps_set : ∀ {ds : List PyData} {vs : List V} {v : V} {d : PyData} (i : Nat), Dp K H v d → DpAll K H vs ds → DpAll K H (vs.set i v) (ds.set i d)
  | [], _, _, _, _, _, h => by cases h; exact .nil
  | _ :: _, _, _, _, 0, r, h => by
    cases h with
    | cons _ h2 => exact .cons r h2
  | _ :: _, _, _, _, i + 1, r, h => by
    cases h with
    | cons h1 h2 => exact .cons h1 (dps_set i r h2)
theorem dps_erase : ∀ {ds : List PyData} {vs : List V} (i : Nat), DpAll K H vs ds → DpAll K H (vs.eraseIdx i) (ds.eraseIdx i)
  | [], _, _, h => by cases h; simpa using (DpAll.nil : DpAll K H [] [])
  | _ :: _, _, 0, h => by
    cases h with
    | cons _ h2 => exact h2
  | _ :: _, _, i + 1, h => by
    cases h with
    | cons h1 h2 => exact .cons h1 (dps_erase i h2)
theorem dps_rev {ds : List PyData} {vs : List V} (h : DpAll K H vs ds) : DpAll K H vs.reverse ds.reverse := by
  induction ds generalizing vs with
  | nil => cases h; exact .nil
  | cons d ds ih =>
    cases h with
    | cons h1 h2 =>
      rw [List.reverse_cons, List.reverse_cons]
      exact dps_app (ih h2) (.cons h1 .nil)
theorem dps_rep {ds : List PyData} {vs : List V} (h : DpAll K H vs ds) : ∀ n : Nat, DpAll K H (List.replicate n vs).flatten (List.replicate n ds).flatten
  | 0 => .nil
  | n + 1 => by
    rw [List.replicate_succ, List.replicate_succ, List.flatten_cons, List.flatten_cons]
    exact dps_app h (dps_rep h n)
theorem dps_ints : ∀ ns : List Int, DpAll K H (ns.map V.int) (ns.map PyData.int)
  | [] => .nil
  | n :: ns => .cons (.int n) (dps_ints ns)
end

theorem rvf_up {K : PySem.W.Frag} {F F' : Hp} (e : Sub F F') : ∀ {x : SV} {v : V}, RVF K F x v → RVF K F' x v
  | .d d, v, r => dp_up e d v r
  | .own _, _, r => r
theorem paired_imp {α β : Type} {R S : α → β → Prop} (f : ∀ a b, R a b → S a b) : ∀ {l : List α} {m : List β}, Paired R l m → Paired S l m
  | _, _, .nil => .nil
  | _, _, .cons h t => .cons (f _ _ h) (paired_imp f t)
theorem rof_up {K : PySem.W.Frag} {F F' : Hp} (e : Sub F F') {o : MO} {u : HO} (r : ROF K F o u) : ROF K F' o u := by
  cases o <;> cases u <;> first | exact r.elim | exact ⟨r.1, r.2.1, paired_imp (fun _ _ z => ⟨z.1, rvf_up e z.2⟩) r.2.2⟩ | exact dps_up e _ _ r | exact paired_imp (fun _ _ => rvf_up e) r | exact paired_imp (fun _ _ z => ⟨z.1, rvf_up e z.2⟩) r | exact ⟨r.1, paired_imp (fun _ _ z => ⟨z.1, rvf_up e z.2⟩) r.2⟩ | exact ⟨r.choose, r.choose_spec.1, paired_imp (fun _ _ z => ⟨z.1, sqT_up e z.2.1, dp_up e _ _ z.2.2⟩) r.choose_spec.2⟩ | exact ⟨r.1, r.2.choose, r.2.choose_spec.1, dps_up e _ _ r.2.choose_spec.2⟩
/-- what no table is -/
def plainO : HO → Bool
  | .lst _ => true
  | .tup _ => true
  | .dK _ => true
  | .dT _ => true
  | .frz _ _ => true
  | .ins _ _ _ => true
  | _ => false
def plainP (u : HO) : Prop := plainO u = true ∨ ∃ a L, u = TD a L
theorem rof_plain {K : PySem.W.Frag} {F : Hp} {o : MO} {u : HO} (r : ROF K F o u) : plainP u := by
  cases o <;> cases u <;> first | exact .inl rfl | exact r.elim | exact .inr ⟨_, r.choose, congrArg HO.ext r.choose_spec.1⟩
theorem not_plain_code {c : Addr} {q : Str} : ¬ plainP (LamX.CodeO c q) := fun z => z.elim (fun y => Bool.noConfusion y) fun ⟨_, _, y⟩ => td_code y
theorem not_plain_tbl {ps : Array Value} : ¬ plainP (.tbl ps) := fun z => z.elim (fun y => Bool.noConfusion y) fun ⟨_, _, y⟩ => HO.noConfusion y
theorem ro_of {K : PySem.W.Frag} {Γ : GI} {H : Hp} {h : MH} {a : Addr} {o : MO} {u : HO} (e : H a = some u) (r : ROF K (Fz Γ H h) o u) : RO K Γ H h a o := by
  cases o with
  | lst xs =>
    cases u <;> first | exact r.elim | exact ⟨_, e, r⟩
  | _ => exact ⟨u, e, r⟩
theorem ro_up {K : PySem.W.Frag} {Γ Γ' : GI} {H H' : Hp} {h h' : MH} {a : Addr} {o : MO} (e : ∀ u, H a = some u → H' a = some u) (s : Sub (Fz Γ H h) (Fz Γ' H' h')) (r : RO K Γ H h a o) : RO K Γ' H' h' a o := by
  obtain ⟨u, e1, e2⟩ := ro_at r
  exact ro_of (e u e1) (rof_up s e2)
/-- tables stay where all but lists stay -/
theorem tabs_but {T : List (Addr × Str)} {H H' : Hp} (t : LamX.Tabs T H) (e : ∀ b o, H b = some o → ¬ plainP o → H' b = some o) : LamX.Tabs T H' := fun p hp => by
  obtain ⟨ps, h1, h2, h3⟩ := t p hp
  refine ⟨ps, e _ _ h1 not_plain_tbl, h2, fun pos cv hc => ?_⟩
  obtain ⟨c, e1, e2⟩ := h3 pos cv hc
  exact ⟨c, e1, e _ _ e2 not_plain_code⟩
theorem tabs_upd {T : List (Addr × Str)} {H : Hp} {p : Addr} {o : HO} (t : LamX.Tabs T H) (hp : H p = none ∨ ∃ u, H p = some u ∧ plainP u) : LamX.Tabs T (upd H p o) := tabs_but t fun b u e n => by
  rw [upd_ne]
  · exact e
  · intro z
    subst z
    rcases hp with q | ⟨w, q, y⟩
    · rw [q] at e; cases e
    · rw [q] at e; cases e; exact n y
theorem RM.notx {K : PySem.W.Frag} {H : Hp} {h : MH} (r : RM K Γ H h) {a : Addr} (n : H a = none) : a ∉ Γ.x := fun z => by
  obtain ⟨_, xs, e⟩ := r.nx a z
  rw [n] at e; cases e
theorem RM.ownx {K : PySem.W.Frag} {H : Hp} {h : MH} (r : RM K Γ H h) {a : Addr} {o : MO} (n : h a = some o) : a ∉ Γ.x := fun z => by
  have q := (r.nx a z).1
  rw [n] at q; cases q
theorem RM.isl {K : PySem.W.Frag} {H : Hp} {h : MH} (r : RM K Γ H h) {a : Addr} {o : MO} (n : h a = some o) : ∃ u, H a = some u ∧ plainP u := by
  obtain ⟨u, e, q⟩ := ro_at (r.ob a o n)
  exact ⟨u, e, rof_plain q⟩
/-- a new tracked thing -/
theorem PX.new {H : Hp} {h : MH} {p : Addr} {o : HO} (n : H p = none) (nx : p ∉ Γ.x) : PX Γ H h (upd H p o) h := by
  refine ⟨fun a u e => ?_, fun a ha => upd_ne fun z => nx (z ▸ ha)⟩
  obtain ⟨e1, e2, e3, e4⟩ := Fz.to e
  exact Fz.ofH (by rw [upd_ne (ne_of_none e1 n)]; exact e1) e2 e3 e4
theorem RV.up {K : PySem.W.Frag} {H H' : Hp} {h h' : MH} {x : SV} {v : V} (p : PX Γ H h H' h') (r : RV K Γ H h x v) : RV K Γ H' h' x v := by
  cases x with
  | d x => exact dp_up p.ex x v r
  | own a => exact r
theorem RM.nxk {K : PySem.W.Frag} {H H' : Hp} {h h' : MH} (r : RM K Γ H h) (k : ∀ a, a ∈ Γ.x → H' a = H a) (s : ∀ a, a ∈ Γ.x → h' a = h a) : ∀ a, a ∈ Γ.x → h' a = none ∧ ∃ xs, H' a = some (.lst xs) := fun a ha => by
  rw [k a ha, s a ha]
  exact r.nx a ha
theorem RM.new {K : PySem.W.Frag} {H : Hp} {h : MH} {p : Addr} {o : HO} (n : H p = none) (r : RM K Γ H h) : RM K Γ (upd H p o) h := by
  have px : PX Γ H h (upd H p o) h := PX.new n (r.notx n)
  refine ⟨fun a m e => ?_, Γ.st px r.g, r.nxk px.kx fun _ _ => rfl, tabs_upd r.tb (.inl n)⟩
  exact ro_up (fun u e1 => by rw [upd_ne (ne_of_none e1 n)]; exact e1) px.ex (r.ob a m e)
theorem RM.px {K : PySem.W.Frag} {H : Hp} {h : MH} {p : Addr} {o : HO} (n : H p = none) (r : RM K Γ H h) : PX Γ H h (upd H p o) h := PX.new n (r.notx n)
/-- a new list is one's own -/
theorem own_px {H : Hp} {h : MH} {p : Addr} {o : HO} {m : MO} (n : H p = none) (hn : h p = none) (nx : p ∉ Γ.x) : PX Γ H h (upd H p o) (mput h p m) := by
  refine ⟨fun a u e => ?_, fun a ha => upd_ne fun z => nx (z ▸ ha)⟩
  obtain ⟨e1, e2, e3, e4⟩ := Fz.to e
  have ne := ne_of_none e1 n
  exact Fz.ofH (by rw [upd_ne ne]; exact e1) (by rw [mput_ne ne]; exact e2) e3 e4
theorem own_rmG {K : PySem.W.Frag} {H : Hp} {h : MH} {p : Addr} {u : HO} {o : MO} (n : H p = none) (r : RM K Γ H h) (hd : ROF K (Fz Γ H h) o u) : RM K Γ (upd H p u) (mput h p o) := by
  have nx := r.notx n
  have px : PX Γ H h (upd H p u) (mput h p o) := own_px n (r.tracked n) nx
  refine ⟨fun a m e => ?_, Γ.st px r.g, r.nxk px.kx fun a ha => mput_ne fun z => nx (by rw [← z]; exact ha), tabs_upd r.tb (.inl n)⟩
  by_cases q : a = p
  · subst q
    rw [mput_same] at e; cases e
    exact ro_of upd_same (rof_up px.ex hd)
  · rw [mput_ne q] at e
    exact ro_up (fun u e1 => by rw [upd_ne q]; exact e1) px.ex (r.ob a m e)
theorem own_rm {K : PySem.W.Frag} {H : Hp} {h : MH} {p : Addr} {vs : List V} {ds : List PyData} (n : H p = none) (r : RM K Γ H h) (hd : DpAll K (Fz Γ H h) vs ds) : RM K Γ (upd H p (.lst vs)) (mput h p (.lst ds)) := own_rmG n r hd
/-- one's own list is written -/
theorem put_px {K : PySem.W.Frag} {H : Hp} {h : MH} {p : Addr} {o : HO} {m m' : MO} (hp : h p = some m) (r : RM K Γ H h) (nm : hid (some m) = true := by rfl) : PX Γ H h (upd H p o) (mput h p m') := by
  refine ⟨fun a u e => ?_, fun a ha => upd_ne fun z => r.ownx hp (z ▸ ha)⟩
  obtain ⟨e1, e2, e3, e4⟩ := Fz.to e
  have ne : a ≠ p := fun q => by rw [q, hp, nm] at e2; cases e2
  exact Fz.ofH (by rw [upd_ne ne]; exact e1) (by rw [mput_ne ne]; exact e2) e3 e4
theorem put_rmG {K : PySem.W.Frag} {H : Hp} {h : MH} {p : Addr} {u : HO} {m o : MO} (hp : h p = some m) (r : RM K Γ H h) (hd : ROF K (Fz Γ H h) o u) (nm : hid (some m) = true := by rfl) : RM K Γ (upd H p u) (mput h p o) := by
  have px : PX Γ H h (upd H p u) (mput h p o) := put_px hp r nm
  have nx := r.ownx hp
  refine ⟨fun a m' e => ?_, Γ.st px r.g, r.nxk px.kx fun a ha => mput_ne fun z => nx (by rw [← z]; exact ha), tabs_upd r.tb (.inr (r.isl hp))⟩
  by_cases q : a = p
  · subst q
    rw [mput_same] at e; cases e
    exact ro_of upd_same (rof_up px.ex hd)
  · rw [mput_ne q] at e
    exact ro_up (fun u e1 => by rw [upd_ne q]; exact e1) px.ex (r.ob a m' e)
theorem put_rm {K : PySem.W.Frag} {H : Hp} {h : MH} {p : Addr} {vs : List V} {m : MO} {ds : List PyData} (hp : h p = some m) (r : RM K Γ H h) (hd : DpAll K (Fz Γ H h) vs ds) (nm : hid (some m) = true := by rfl) : RM K Γ (upd H p (.lst vs)) (mput h p (.lst ds)) := put_rmG hp r hd nm
/-- what is one's own may be let go -/
theorem drop_px {H : Hp} {h h' : MH} (s : ∀ a o, h' a = some o → h a = some o) : PX Γ H h H h' := by
  refine ⟨fun a u e => ?_, fun _ _ => rfl⟩
  obtain ⟨e1, e2, e3, e4⟩ := Fz.to e
  refine Fz.ofH e1 ?_ e3 e4
  cases q : h' a with
  | none => rfl
  | some o => rw [← s a o q]; exact e2
theorem drop_rm {K : PySem.W.Frag} {H : Hp} {h h' : MH} (s : ∀ a o, h' a = some o → h a = some o) (r : RM K Γ H h) : RM K Γ H h' := by
  have sn : ∀ a, h a = none → h' a = none := fun a n => by
    cases q : h' a with
    | none => rfl
    | some o => rw [s a o q] at n; cases n
  have px : PX Γ H h H h' := drop_px s
  refine ⟨fun a m e => ?_, Γ.st px r.g, fun a ha => ⟨sn a (r.nx a ha).1, (r.nx a ha).2⟩, r.tb⟩
  exact ro_up (fun _ q => q) px.ex (r.ob a m (s a m e))

section
variable {K : PySem.W.Frag} {H H' : Hp} {h h' : MH} {σd : DSt} {σ : L2.St}
theorem RSt.up (p : PX Γ H h H' h') (r : RSt K Γ H h σd σ) : RSt K Γ H' h' σd σ := ⟨r.1, fun i x e => let ⟨v, e1, e2⟩ := r.2 i x e; ⟨v, e1, e2.up p⟩⟩
theorem RSt.clr {i : Nat} (r : RSt K Γ H h σd σ) (o : Option V) : RSt K Γ H h (σd.set i none) (σ.set i o) := by
  refine ⟨by simp [r.1], fun j y e => ?_⟩
  by_cases q : i = j
  · subst q
    by_cases l : i < σd.length
    · rw [List.getElem?_set_self l] at e; cases e
    · rw [List.getElem?_eq_none (by simpa using l)] at e; cases e
  · rw [List.getElem?_set_ne q] at e
    obtain ⟨w, e1, e2⟩ := r.2 j y e
    exact ⟨w, by rw [List.getElem?_set_ne q]; exact e1, e2⟩
end

def lift {α β : Type} (K : PySem.W.Frag) (Γ : GI) (R : Hp → MH → α → β → Prop) (t : DSt → MH → (α → MH → Prop) → Prop) : L2.St → Hp → (β → Hp → Prop) → Prop :=
  fun σ H Q => ∃ σd h, RSt K Γ H h σd σ ∧ RM K Γ H h ∧ t σd h fun x h' => ∀ v H', PX Γ H h H' h' → R H' h' x v → RM K Γ H' h' → Q v H'
def Mono {α : Type} (t : DSt → MH → (α → MH → Prop) → Prop) : Prop := ∀ σ h (Q Q' : α → MH → Prop), (∀ x h', Q x h' → Q' x h') → t σ h Q → t σ h Q'
theorem lift_mk {α β : Type} {K : PySem.W.Frag} {R : Hp → MH → α → β → Prop} {t : DSt → MH → (α → MH → Prop) → Prop} {σd : DSt} {h : MH} {σ : L2.St} {H : Hp} {C : α → MH → Prop} {P : β → Hp → Prop} (m : Mono t)
    (rs : RSt K Γ H h σd σ) (rm : RM K Γ H h) (ht : t σd h C) (k : ∀ x h1 v H1, PX Γ H h H1 h1 → RSt K Γ H1 h1 σd σ → R H1 h1 x v → RM K Γ H1 h1 → C x h1 → P v H1) : lift K Γ R t σ H P :=
  ⟨σd, h, rs, rm, m _ _ _ _ (fun x h1 c v H1 px r1 rm1 => k x h1 v H1 px (rs.up px) r1 rm1 c) ht⟩
abbrev liftV (K : PySem.W.Frag) (Γ : GI) (t : DTE) : TE := lift K Γ (RV K Γ) t
abbrev liftB (K : PySem.W.Frag) (Γ : GI) (t : DTT) : TT := lift K Γ (fun _ _ a b => a = b) t
abbrev RVs (K : PySem.W.Frag) (Γ : GI) (H : Hp) (h : MH) : List SV → List V → Prop := Paired (RV K Γ H h)
abbrev liftA (K : PySem.W.Frag) (Γ : GI) (t : DTA) : TA := lift K Γ (RVs K Γ) t
theorem rvs_up {K : PySem.W.Frag} {H H' : Hp} {h h' : MH} (p : PX Γ H h H' h') : ∀ {xs : List SV} {vs : List V}, RVs K Γ H h xs vs → RVs K Γ H' h' xs vs
  | _, _, .nil => .nil
  | _, _, .cons r t => .cons (r.up p) (rvs_up p t)

structure DE (X : Cx) (Γ : GI) (e : Expr) (t : DTE) : Prop where
  mono : Mono t
  pe : PE X e (liftV X.K Γ t)
structure DT (X : Cx) (Γ : GI) (e : Expr) (t : DTT) : Prop where
  mono : Mono t
  pt : PT X e (liftB X.K Γ t)
structure DA (X : Cx) (Γ : GI) (es : List Expr) (t : DTA) : Prop where
  mono : Mono t
  pa : PA X es (liftA X.K Γ t)
theorem pe_imp {X : Cx} {e : Expr} {t t' : TE} (p : PE X e t) (k : ∀ σ H Q, t' σ H Q → t σ H Q) : PE X e t' := ⟨fun pins s σ H Q I w => p.run pins s σ H Q I (k σ H Q w)⟩
theorem pt_imp {X : Cx} {e : Expr} {t t' : TT} (p : PT X e t) (k : ∀ σ H Q, t' σ H Q → t σ H Q) : PT X e t' := ⟨fun pins s σ H Q I w => p.run pins s σ H Q I (k σ H Q w)⟩
theorem pw_imp {X : Cx} {e : Expr} {t t' : TT} (p : PW X e t) (k : ∀ σ H Q, t' σ H Q → t σ H Q) : PW X e t' := ⟨fun whole pins s σ H Q I w => p.run whole pins s σ H Q I (k σ H Q w)⟩
theorem pa_imp {X : Cx} {e : List Expr} {t t' : TA} (p : PA X e t) (k : ∀ σ H Q, t' σ H Q → t σ H Q) : PA X e t' := ⟨fun pos pins s σ H Q I w => p.run pos pins s σ H Q I (k σ H Q w)⟩
theorem ps_imp {X : Cx} {e : Stmt} {t t' : TS} (p : PS X e t) (k : ∀ D σ H, t' D σ H → t D σ H) : PS X e t' := ⟨fun pins s σ H D I w => p.run pins s σ H D I (k D σ H w)⟩
theorem pss_imp {X : Cx} {e : List Stmt} {t t' : TS} (p : PSs X e t) (k : ∀ D σ H, t' D σ H → t D σ H) : PSs X e t' := ⟨fun pins s σ H D I w => p.run pins s σ H D I (k D σ H w)⟩

section
variable {X : Cx} {a b c e : Expr} {pos : Pos}
def slot (σ : DSt) (i : Nat) : Option SV := match σ[i]? with
  | some o => o
  | none => none
def dVar (i : Nat) : DTE := fun σ h Q => match slot σ i with
  | some x => Q x h
  | none => False
theorem mono_var {i : Nat} : Mono (dVar i) := fun σ h Q Q' k w => by
  unfold dVar at w ⊢
  cases e : slot σ i with
  | none => rw [e] at w; exact w
  | some x => rw [e] at w; exact k _ _ w
theorem de_name {i : Nat} {x : Str} (p : PE X (.Name x pos) (tVar i)) : DE X Γ (.Name x pos) (dVar i) := by
  refine ⟨mono_var, pe_imp p fun σ H Q ⟨σd, h, rs, rm, w⟩ => ?_⟩
  unfold dVar at w
  have hs : ∀ y, slot σd i = some y → σd[i]? = some (some y) := fun y hy => by
    unfold slot at hy
    cases q : σd[i]? with
    | none => rw [q] at hy; cases hy
    | some o => rw [q] at hy; subst hy; rfl
  cases e : slot σd i with
  | none => rw [e] at w; exact w.elim
  | some y =>
    rw [e] at w
    obtain ⟨v, e1, e2⟩ := rs.2 i y (hs y e)
    exact ⟨v, e1, w v H PX.refl e2 rm⟩
theorem dv (i : Nat) {x : Str} (hN : X.N[i]? = some x := by rfl) (hv : Vis X.env.scope x := by first | exact Or.inl rfl | exact Or.inr (Or.inl rfl) | exact Or.inr (Or.inr rfl)) (hd : (x == ("__debug__" : Str)) = false := by decide)
    (hcd : (x == ("__classdict__" : Str)) = false := by decide) : DE X Γ (.Name x pos) (dVar i) := de_name (pe_var hN hv hd hcd)
def dC (x : PyData) : DTE := fun _ h Q => Q (.d x) h
theorem mono_c {x : PyData} : Mono (dC x) := fun _ _ _ _ k w => k _ _ w
theorem de_c {v : V} {x : PyData} (p : PE X e (tC v)) (r : ∀ H, Dp X.K H v x) : DE X Γ e (dC x) := ⟨mono_c, pe_imp p fun σ H Q ⟨σd, h, rs, rm, w⟩ => w v H PX.refl (r _) rm⟩
theorem de_int {i j} : DE X Γ (.Constant (.int i) j pos) (dC (.int i)) := de_c pe_int fun _ => .int i
theorem de_bl {b j} : DE X Γ (.Constant (.bool b) j pos) (dC (.bool b)) := de_c pe_bl fun _ => .bl b
theorem de_non {j} : DE X Γ (.Constant .none j pos) (dC .none) := de_c pe_non fun _ => .non
theorem de_str {x j} : DE X Γ (.Constant (.str x) j pos) (dC (.str x)) := de_c pe_str fun _ => .str x
end
end DL

namespace DL
open PySem PySem.Spec PyProof.Rows L2
set_option autoImplicit true

abbrev DR2 := SV → SV → MH → DK → Prop
structure LR2 (K : PySem.W.Frag) (Γ : GI) (r' : DR2) (r : R2) : Prop where
  mono : ∀ x y h (Q Q' : DK), (∀ z h', Q z h' → Q' z h') → r' x y h Q → r' x y h Q'
  run : ∀ x y v u H h (C : DK) (Q : VK), RV K Γ H h x v → RV K Γ H h y u → RM K Γ H h → r' x y h C → (∀ z h' w H', PX Γ H h H' h' → RV K Γ H' h' z w → RM K Γ H' h' → C z h' → Q w H') → r v u H Q
abbrev DRA := List SV → MH → DK → Prop
structure LRA (K : PySem.W.Frag) (Γ : GI) (r' : DRA) (r : List V → Hp → VK → Prop) : Prop where
  mono : ∀ xs h (Q Q' : DK), (∀ z h', Q z h' → Q' z h') → r' xs h Q → r' xs h Q'
  run : ∀ xs vs H h (C : DK) (Q : VK), RVs K Γ H h xs vs → RM K Γ H h → r' xs h C → (∀ z h' w H', PX Γ H h H' h' → RV K Γ H' h' z w → RM K Γ H' h' → C z h' → Q w H') → r vs H Q
/-- a call that gives a fresh list -/
abbrev DRF := List SV → MH → (List PyData → MH → Prop) → Prop
structure LRF (K : PySem.W.Frag) (Γ : GI) (r' : DRF) (r : List V → Hp → VK → Prop) : Prop where
  mono : ∀ xs h (Q Q' : List PyData → MH → Prop), (∀ z h', Q z h' → Q' z h') → r' xs h Q → r' xs h Q'
  run : ∀ xs vs H h (C : List PyData → MH → Prop) (Q : VK), RVs K Γ H h xs vs → RM K Γ H h → r' xs h C →
    (∀ ds h' ws H' p, PX Γ H h H' h' → DpAll K (Fz Γ H' h') ws ds → RM K Γ H' h' → C ds h' → H' p = none → Q (.ref p) (upd H' p (.lst ws))) → r vs H Q

/-- an expression that gives a fresh list -/
def liftF (K : PySem.W.Frag) (Γ : GI) (t : DTF) : TE := fun σ H Q => ∃ σd h, RSt K Γ H h σd σ ∧ RM K Γ H h ∧ t σd h fun ds h' => ∀ ws H' p, PX Γ H h H' h' → DpAll K (Fz Γ H' h') ws ds → RM K Γ H' h' → H' p = none → Q (.ref p) (upd H' p (.lst ws))
structure DF (X : Cx) (Γ : GI) (e : Expr) (t : DTF) : Prop where
  mono : Mono t
  pe : PE X e (liftF X.K Γ t)
def dL (t : DTF) : DTE := fun σ h Q => t σ h fun ds h' => Q (.d (.list ds)) h'
theorem mono_L {t : DTF} (m : Mono t) : Mono (dL t) := fun σ h Q Q' k w => m σ h _ _ (fun ds h' q => k _ _ q) w
/-- a new list, not one's own -/
theorem new_list {K : PySem.W.Frag} {H : Hp} {h : MH} {p : Addr} {ws : List V} {ds : List PyData} (n : H p = none) (rm : RM K Γ H h) (hd : DpAll K (Fz Γ H h) ws ds) :
    PX Γ H h (upd H p (.lst ws)) h ∧ RM K Γ (upd H p (.lst ws)) h ∧ RV K Γ (upd H p (.lst ws)) h (.d (.list ds)) (.ref p) :=
  ⟨rm.px n, RM.new n rm, Dp.lst (SqL.of (Fz.of upd_same (rm.tracked n) (rm.notx n))) (dps_up (rm.px n).ex _ _ hd)⟩
theorem new_tup {K : PySem.W.Frag} {H : Hp} {h : MH} {p : Addr} {ws : List V} {ds : List PyData} (n : H p = none) (rm : RM K Γ H h) (hd : DpAll K (Fz Γ H h) ws ds) :
    PX Γ H h (upd H p (.tup ws)) h ∧ RM K Γ (upd H p (.tup ws)) h ∧ RV K Γ (upd H p (.tup ws)) h (.d (.tuple ds)) (.ref p) :=
  ⟨rm.px n, RM.new n rm, Dp.tup (SqT.of (Fz.of upd_same (rm.tracked n) (rm.notx n))) (dps_up (rm.px n).ex _ _ hd)⟩
theorem DF.toDE {X : Cx} {e : Expr} {t : DTF} (f : DF X Γ e t) : DE X Γ e (dL t) :=
  ⟨mono_L f.mono, pe_imp f.pe fun σ H Q ⟨σd, h, rs, rm, w⟩ => ⟨σd, h, rs, rm, f.mono _ _ _ _ (fun ds h' q ws H' p px hd rm' n => by
    obtain ⟨p1, r1, v1⟩ := new_list n rm' hd
    exact q _ _ (px.trans p1) v1 r1) w⟩⟩

section
variable {X : Cx} {a b c e : Expr} {pos : Pos} {ta tb tc : DTE}
def dOp (r : DR2) (ta tb : DTE) : DTE := fun σ h Q => ta σ h fun x h1 => tb σ h1 fun y h2 => r x y h2 Q
theorem mono_op {r : DR2} (m : ∀ x y h (Q Q' : DK), (∀ z h', Q z h' → Q' z h') → r x y h Q → r x y h Q') (ma : Mono ta) (mb : Mono tb) : Mono (dOp r ta tb) :=
  fun σ h Q Q' k w => ma _ _ _ _ (fun x h1 w1 => mb _ _ _ _ (fun y h2 w2 => m _ _ _ _ _ k w2) w1) w
theorem op_lift {K : PySem.W.Frag} {r' : DR2} {r : R2} (l : LR2 K Γ r' r) (ma : Mono ta) (mb : Mono tb) : ∀ σ H Q, liftV K Γ (dOp r' ta tb) σ H Q → tOp r (liftV K Γ ta) (liftV K Γ tb) σ H Q := fun σ H Q ⟨σd, h, rs, rm, w⟩ =>
  lift_mk ma rs rm w fun x h1 v H1 px rs1 rv rm1 w1 => lift_mk mb rs1 rm1 w1 fun y h2 u H2 px2 rs2 ru rm2 w2 =>
    l.run x y v u H2 h2 _ Q (rv.up px2) ru rm2 w2 fun z h3 w' H3 px3 rz rm3 q => q w' H3 ((px.trans px2).trans px3) rz rm3
theorem de_bin {op : Operator} {r' : DR2} {r : R2} (ho : OpR X (binaryOp op) r) (l : LR2 X.K Γ r' r) (ha : DE X Γ a ta) (hb : DE X Γ b tb) : DE X Γ (.BinOp a op b pos) (dOp r' ta tb) :=
  ⟨mono_op l.mono ha.mono hb.mono, pe_imp (pe_op ho ha.pe hb.pe) (op_lift l ha.mono hb.mono)⟩
theorem de_cmp {op : CmpOp} {r' : DR2} {r : R2} (ho : OpR X (compareOp op) r) (l : LR2 X.K Γ r' r) (ha : DE X Γ a ta) (hb : DE X Γ b tb) (hm : behindInMarks op b = false := by first | exact nomark _ | rfl) : DE X Γ (.Compare a [op] [b] pos) (dOp r' ta tb) :=
  ⟨mono_op l.mono ha.mono hb.mono, pe_imp (pe_cmpR ho ha.pe hb.pe hm) (op_lift l ha.mono hb.mono)⟩
def dTest (t : DTE) : DTT := fun σ h Q => t σ h fun x h1 => match x with
  | .d (.bool k) => Q k h1
  | _ => False
theorem mono_test {t : DTE} (m : Mono t) : Mono (dTest t) := fun σ h Q Q' k w => m _ _ _ _ (fun x h1 w1 => by
  cases x with
  | own a => exact w1
  | d x => cases x <;> first | exact w1 | exact k _ _ w1) w
theorem test_lift {K : PySem.W.Frag} {t : DTE} (m : Mono t) : ∀ σ H Q, liftB K Γ (dTest t) σ H Q → tTest (liftV K Γ t) σ H Q := fun σ H Q ⟨σd, h, rs, rm, w⟩ =>
  lift_mk m rs rm w fun x h1 v H1 px rs1 rv rm1 w1 => by
    cases x with
    | own a => exact w1.elim
    | d x => cases x with
      | bool k => cases rv; exact ⟨k, rfl, w1 k H1 px rfl rm1⟩
      | _ => exact w1.elim
theorem dt_cmp {op : CmpOp} {r' : DR2} {r : R2} (ho : OpR X (compareOp op) r) (l : LR2 X.K Γ r' r) (ha : DE X Γ a ta) (hb : DE X Γ b tb) (hm : behindInMarks op b = false := by first | exact nomark _ | rfl) : DT X Γ (.Compare a [op] [b] pos) (dTest (dOp r' ta tb)) :=
  ⟨mono_test (mono_op l.mono ha.mono hb.mono), pt_imp (pt_cmpR ho ha.pe hb.pe hm) fun σ H Q w => by
    obtain ⟨σd, h, rs, rm, w⟩ := test_lift (mono_op l.mono ha.mono hb.mono) σ H Q w
    exact op_lift l ha.mono hb.mono σ H _ ⟨σd, h, rs, rm, w⟩⟩
/-- a bool as a test -/
theorem dt_val {t : DTE} (h : DE X Γ e t) (he : ∀ whole, isTrue e X.env whole = (do let v ← whole; standAt e.pos; holding [v] (truthy v)) := by intro _; rfl) : DT X Γ e (dTest t) :=
  ⟨mono_test h.mono, pt_imp (pt_val h.pe he) fun σ H Q w => test_lift h.mono σ H Q w⟩

def dAnd (t u : DTT) : DTT := fun σ h Q => t σ h fun c h1 => if c = true then u σ h1 Q else Q false h1
def dOr (t u : DTT) : DTT := fun σ h Q => t σ h fun c h1 => if c = true then Q true h1 else u σ h1 Q
def dNot (t : DTT) : DTT := fun σ h Q => t σ h fun c h1 => Q (!c) h1
/-- .. as values of truths -/
def dAndV (ta tb : DTE) : DTE := fun σ h Q => ta σ h fun x h1 => match x with
  | .d (.bool c) => if c = true then tb σ h1 Q else Q (.d (.bool false)) h1
  | _ => False
def dOrV (ta tb : DTE) : DTE := fun σ h Q => ta σ h fun x h1 => match x with
  | .d (.bool c) => if c = true then Q (.d (.bool true)) h1 else tb σ h1 Q
  | _ => False
def dNotV (ta : DTE) : DTE := fun σ h Q => ta σ h fun x h1 => match x with
  | .d (.bool c) => Q (.d (.bool (!c))) h1
  | _ => False
def dIf (t : DTT) (ta tb : DTE) : DTE := fun σ h Q => t σ h fun c h1 => if c = true then ta σ h1 Q else tb σ h1 Q
theorem mono_and {t u : DTT} (mt : Mono t) (mu : Mono u) : Mono (dAnd t u) := fun σ h Q Q' k w => mt _ _ _ _ (fun c h1 w1 => by
  cases c with
  | true => exact mu _ _ _ _ k w1
  | false => exact k _ _ w1) w
theorem mono_or {t u : DTT} (mt : Mono t) (mu : Mono u) : Mono (dOr t u) := fun σ h Q Q' k w => mt _ _ _ _ (fun c h1 w1 => by
  cases c with
  | true => exact k _ _ w1
  | false => exact mu _ _ _ _ k w1) w
theorem mono_not {t : DTT} (mt : Mono t) : Mono (dNot t) := fun σ h Q Q' k w => mt _ _ _ _ (fun c h1 w1 => k _ _ w1) w
theorem mono_if {t : DTT} (mt : Mono t) (ma : Mono ta) (mb : Mono tb) : Mono (dIf t ta tb) := fun σ h Q Q' k w => mt _ _ _ _ (fun c h1 w1 => by
  cases c with
  | true => exact ma _ _ _ _ k w1
  | false => exact mb _ _ _ _ k w1) w
theorem mono_andV (ma : Mono ta) (mb : Mono tb) : Mono (dAndV ta tb) := fun σ h Q Q' k w => ma _ _ _ _ (fun x h1 w1 => by
  cases x with
  | own a => exact w1
  | d x => cases x with
    | bool c => cases c with
      | true => exact mb _ _ _ _ k w1
      | false => exact k _ _ w1
    | _ => exact w1) w
theorem mono_notV (ma : Mono ta) : Mono (dNotV ta) := fun σ h Q Q' k w => ma _ _ _ _ (fun x h1 w1 => by
  cases x with
  | own a => exact w1
  | d x => cases x with
    | bool c => exact k _ _ w1
    | _ => exact w1) w
structure DW (X : Cx) (Γ : GI) (e : Expr) (t : DTT) : Prop where
  mono : Mono t
  pw : PW X e (liftB X.K Γ t)
theorem DW.dt {t : DTT} (h : DW X Γ e t) : DT X Γ e t := ⟨h.mono, h.pw.pt⟩
variable {t u : DTT} {rest : List Expr}
theorem dw_and1 (ha : DT X Γ a t) : DW X Γ (.BoolOp .And [a] pos) t := ⟨ha.mono, pw_and1 ha.pt⟩
theorem dw_or1 (ha : DT X Γ a t) : DW X Γ (.BoolOp .Or [a] pos) t := ⟨ha.mono, pw_or1 ha.pt⟩
theorem dw_and (ha : DT X Γ a t) (hb : DW X Γ (.BoolOp .And (b :: rest) pos) u) : DW X Γ (.BoolOp .And (a :: b :: rest) pos) (dAnd t u) :=
  ⟨mono_and ha.mono hb.mono, pw_imp (pw_and ha.pt hb.pw) fun σ H Q ⟨σd, h, rs, rm, w⟩ => lift_mk ha.mono rs rm w fun c h1 k H1 px rs1 rv rm1 w1 => by
    subst rv
    cases c with
    | true => exact iteT (lift_mk hb.mono rs1 rm1 w1 fun c2 h2 k2 H2 px2 _ rv2 rm2 w2 => by subst rv2; exact w2 _ _ (px.trans px2) rfl rm2)
    | false => exact iteF (w1 _ _ px rfl rm1)⟩
theorem dw_or (ha : DT X Γ a t) (hb : DW X Γ (.BoolOp .Or (b :: rest) pos) u) : DW X Γ (.BoolOp .Or (a :: b :: rest) pos) (dOr t u) :=
  ⟨mono_or ha.mono hb.mono, pw_imp (pw_or ha.pt hb.pw) fun σ H Q ⟨σd, h, rs, rm, w⟩ => lift_mk ha.mono rs rm w fun c h1 k H1 px rs1 rv rm1 w1 => by
    subst rv
    cases c with
    | true => exact iteT (w1 _ _ px rfl rm1)
    | false => exact iteF (lift_mk hb.mono rs1 rm1 w1 fun c2 h2 k2 H2 px2 _ rv2 rm2 w2 => by subst rv2; exact w2 _ _ (px.trans px2) rfl rm2)⟩
theorem dt_not (ha : DT X Γ a t) : DT X Γ (.UnaryOp .Not a pos) (dNot t) :=
  ⟨mono_not ha.mono, pt_imp (pt_not ha.pt) fun σ H Q ⟨σd, h, rs, rm, w⟩ => lift_mk ha.mono rs rm w fun c h1 k H1 px rs1 rv rm1 w1 => by subst rv; exact w1 _ _ px rfl rm1⟩
theorem de_ifExp {c : Expr} (hc : DT X Γ c t) (ha : DE X Γ a ta) (hb : DE X Γ b tb) : DE X Γ (.IfExp c a b pos) (dIf t ta tb) :=
  ⟨mono_if hc.mono ha.mono hb.mono, pe_imp (pe_ifExp hc.pt ha.pe hb.pe) fun σ H Q ⟨σd, h, rs, rm, w⟩ => lift_mk hc.mono rs rm w fun c h1 k H1 px rs1 rv rm1 w1 => by
    subst rv
    cases c with
    | true => exact iteT (lift_mk ha.mono rs1 rm1 w1 fun x h2 v H2 px2 _ rv2 rm2 w2 => w2 _ _ (px.trans px2) rv2 rm2)
    | false => exact iteF (lift_mk hb.mono rs1 rm1 w1 fun x h2 v H2 px2 _ rv2 rm2 w2 => w2 _ _ (px.trans px2) rv2 rm2)⟩
theorem de_one {op} {t : DTE} (h : DE X Γ a t) : DE X Γ (.BoolOp op [a] pos) t := ⟨h.mono, pe_one h.pe⟩
theorem de_and (ha : DE X Γ a ta) (hb : DE X Γ (.BoolOp .And (b :: rest) pos) tb) : DE X Γ (.BoolOp .And (a :: b :: rest) pos) (dAndV ta tb) :=
  ⟨mono_andV ha.mono hb.mono, pe_imp (pe_and ha.pe hb.pe) fun σ H Q ⟨σd, h, rs, rm, w⟩ => lift_mk ha.mono rs rm w fun x h1 v H1 px rs1 rv rm1 w1 => by
    cases x with
    | own a => exact w1.elim
    | d x => cases x with
      | bool c =>
        cases rv
        refine ⟨c, rfl, ?_⟩
        cases c with
        | true => exact iteT (lift_mk hb.mono rs1 rm1 w1 fun x h2 v H2 px2 _ rv2 rm2 w2 => w2 _ _ (px.trans px2) rv2 rm2)
        | false => exact iteF (w1 _ _ px (Dp.bl false) rm1)
      | _ => exact w1.elim⟩
theorem de_not (ha : DE X Γ a ta) : DE X Γ (.UnaryOp .Not a pos) (dNotV ta) :=
  ⟨mono_notV ha.mono, pe_imp (pe_not ha.pe) fun σ H Q ⟨σd, h, rs, rm, w⟩ => lift_mk ha.mono rs rm w fun x h1 v H1 px rs1 rv rm1 w1 => by
    cases x with
    | own a => exact w1.elim
    | d x => cases x with
      | bool c =>
        cases rv
        exact ⟨c, rfl, w1 _ _ px (Dp.bl (!c)) rm1⟩
      | _ => exact w1.elim⟩
end

def asL (h : MH) : SV → Option (List PyData)
  | .d (.list xs) => some xs
  | .own a => match h a with
    | some (.lst xs) => some xs
    | _ => none
  | _ => none
def asT : SV → Option (List PyData)
  | .d (.tuple xs) => some xs
  | _ => none
theorem asL_ok {K : PySem.W.Frag} {H : Hp} {h : MH} {x : SV} {v : V} {xs : List PyData} (rv : RV K Γ H h x v) (rm : RM K Γ H h) (e : asL h x = some xs) : ∃ a vs, v = .ref a ∧ SqL K H a vs ∧ DpAll K (Fz Γ H h) vs xs := by
  cases x with
  | own a =>
    cases q : h a with
    | none => simp only [asL, q] at e; cases e
    | some m =>
      cases m with
      | lst ys =>
        simp only [asL, q] at e; cases e
        obtain ⟨vs, e1, e2⟩ := rm.ob a _ q
        exact ⟨a, vs, rv, SqL.of e1, e2⟩
      | _ => simp only [asL, q] at e; cases e
  | d x =>
    cases x with
    | list ys =>
      cases e
      have rv' : Dp K (Fz Γ H h) v (.list xs) := rv
      cases rv' with
      | lst h1 h2 => exact ⟨_, _, rfl, sqL_up fz_sub h1, h2⟩
    | _ => cases e
theorem asT_ok {K : PySem.W.Frag} {H : Hp} {h : MH} {x : SV} {v : V} {xs : List PyData} (rv : RV K Γ H h x v) (e : asT x = some xs) : ∃ a vs, v = .ref a ∧ SqT K H a vs ∧ DpAll K (Fz Γ H h) vs xs := by
  cases x with
  | own a => cases e
  | d x =>
    cases x with
    | tuple ys =>
      cases e
      have rv' : Dp K (Fz Γ H h) v (.tuple xs) := rv
      cases rv' with
      | tup h1 h2 => exact ⟨_, _, rfl, sqT_up fz_sub h1, h2⟩
    | _ => cases e
def asQ (h : MH) (x : SV) : Option (List PyData) := match asL h x with
  | some xs => some xs
  | none => asT x
theorem asQ_ok {K : PySem.W.Frag} {H : Hp} {h : MH} {x : SV} {v : V} {xs : List PyData} (rv : RV K Γ H h x v) (rm : RM K Γ H h) (e : asQ h x = some xs) : ∃ a vs, v = .ref a ∧ (SqL K H a vs ∨ SqT K H a vs) ∧ DpAll K (Fz Γ H h) vs xs := by
  unfold asQ at e
  cases q : asL h x with
  | some ys =>
    rw [q] at e; cases e
    obtain ⟨a, vs, h1, h2, h3⟩ := asL_ok rv rm q
    exact ⟨a, vs, h1, .inl h2, h3⟩
  | none =>
    rw [q] at e
    obtain ⟨a, vs, h1, h2, h3⟩ := asT_ok rv e
    exact ⟨a, vs, h1, .inr h2, h3⟩

def mdrop (h : MH) (a : Addr) : MH := fun b => if b = a then none else h b
def fz1 (x : SV) (h : MH) : Option (PyData × MH) := match x with
  | .d d => some (d, h)
  | .own a => match h a with
    | some (.lst xs) => some (.list xs, mdrop h a)
    | _ => none
theorem mdrop_px {H : Hp} {h : MH} {a : Addr} : PX Γ H h H (mdrop h a) := drop_px fun b o e => by
  unfold mdrop at e
  split at e
  · cases e
  · exact e
theorem mdrop_rm {K : PySem.W.Frag} {H : Hp} {h : MH} {a : Addr} (r : RM K Γ H h) : RM K Γ H (mdrop h a) := drop_rm (fun b o e => by
  unfold mdrop at e
  split at e
  · cases e
  · exact e) r
theorem fz1_ok {K : PySem.W.Frag} {H : Hp} {h h' : MH} {x : SV} {v : V} {d : PyData} (rv : RV K Γ H h x v) (rm : RM K Γ H h) (e : fz1 x h = some (d, h')) : PX Γ H h H h' ∧ RM K Γ H h' ∧ Dp K (Fz Γ H h') v d := by
  cases x with
  | d y => cases e; exact ⟨PX.refl, rm, rv⟩
  | own a =>
    unfold fz1 at e
    cases q : h a with
    | none => simp only [q] at e; cases e
    | some m =>
      cases m with
      | lst xs =>
        simp only [q] at e
        cases e
        obtain ⟨vs, e1, e2⟩ := rm.ob a _ q
        have rv' : v = .ref a := rv
        subst rv'
        exact ⟨mdrop_px, mdrop_rm rm, Dp.lst (SqL.of (Fz.of e1 (if_pos rfl) (rm.ownx q))) (dps_up mdrop_px.ex _ _ e2)⟩
      | _ => simp only [q] at e; cases e
def fzs : List SV → MH → Option (List PyData × MH)
  | [], h => some ([], h)
  | x :: r, h => match fz1 x h with
    | some (d, h1) => match fzs r h1 with
      | some (ds, h2) => some (d :: ds, h2)
      | none => none
    | none => none
theorem fzs_ok {K : PySem.W.Frag} {H : Hp} : ∀ {xs : List SV} {vs : List V} {h h' : MH} {ds : List PyData}, RVs K Γ H h xs vs → RM K Γ H h → fzs xs h = some (ds, h') → PX Γ H h H h' ∧ RM K Γ H h' ∧ DpAll K (Fz Γ H h') vs ds
  | [], _, _, _, _, r, rm, e => by cases r; cases e; exact ⟨PX.refl, rm, .nil⟩
  | x :: r, _, h, h', ds, rr, rm, e => by
    cases rr with
    | cons r1 r2 =>
      unfold fzs at e
      cases q1 : fz1 x h with
      | none => rw [q1] at e; cases e
      | some p =>
        obtain ⟨d, h1⟩ := p
        rw [q1] at e
        simp only at e
        cases q2 : fzs r h1 with
        | none => rw [q2] at e; cases e
        | some p2 =>
          obtain ⟨ds2, h2⟩ := p2
          rw [q2] at e
          cases e
          obtain ⟨p1, rm1, d1⟩ := fz1_ok r1 rm q1
          obtain ⟨p2, rm2, d2⟩ := fzs_ok (rvs_up p1 r2) rm1 q2
          exact ⟨p1.trans p2, rm2, .cons (dp_up p2.ex _ _ d1) d2⟩

section
variable {X : Cx} {a b c e : Expr} {pos : Pos} {ta tb tc te : DTE} {t : DTA} {es : List Expr}
def dNil : DTA := fun _ h Q => Q [] h
def dCons (ta : DTE) (tr : DTA) : DTA := fun σ h Q => ta σ h fun x h1 => tr σ h1 fun xs h2 => Q (x :: xs) h2
theorem da_nil : DA X Γ [] dNil := ⟨fun _ _ _ _ k w => k _ _ w, pa_imp pa_nil fun σ H Q ⟨σd, h, rs, rm, w⟩ => w _ _ PX.refl .nil rm⟩
theorem mono_cons (ma : Mono ta) (mr : Mono t) : Mono (dCons ta t) := fun σ h Q Q' k w => ma _ _ _ _ (fun x h1 w1 => mr _ _ _ _ (fun xs h2 w2 => k _ _ w2) w1) w
theorem da_cons (ha : DE X Γ e te) (hr : DA X Γ es t) (hs : starEach (e :: es) X.env = (false, eval e X.env) :: starEach es X.env := by rfl) : DA X Γ (e :: es) (dCons te t) :=
  ⟨mono_cons ha.mono hr.mono, pa_imp (pa_cons ha.pe hr.pa hs) fun σ H Q ⟨σd, h, rs, rm, w⟩ =>
    lift_mk ha.mono rs rm w fun x h1 v H1 px rs1 rv rm1 w1 => lift_mk hr.mono rs1 rm1 w1 fun xs h2 vs H2 px2 rs2 rvs rm2 w2 =>
      w2 _ _ (px.trans px2) (.cons (rv.up px2) rvs) rm2⟩
def dTup (t : DTA) : DTE := fun σ h Q => t σ h fun xs h1 => match fzs xs h1 with
  | some (ds, h2) => ds.length ≤ sizeLine ∧ Q (.d (.tuple ds)) h2
  | none => False
def fLst (t : DTA) : DTF := fun σ h Q => t σ h fun xs h1 => match fzs xs h1 with
  | some (ds, h2) => ds.length ≤ sizeLine ∧ Q ds h2
  | none => False
theorem mono_tup (m : Mono t) : Mono (dTup t) := fun σ h Q Q' k w => m _ _ _ _ (fun xs h1 w1 => by
  cases q : fzs xs h1 with
  | none => rw [q] at w1; exact w1
  | some p => obtain ⟨ds, h2⟩ := p; rw [q] at w1; exact ⟨w1.1, k _ _ w1.2⟩) w
theorem mono_fLst (m : Mono t) : Mono (fLst t) := fun σ h Q Q' k w => m _ _ _ _ (fun xs h1 w1 => by
  cases q : fzs xs h1 with
  | none => rw [q] at w1; exact w1
  | some p => obtain ⟨ds, h2⟩ := p; rw [q] at w1; exact ⟨w1.1, k _ _ w1.2⟩) w
theorem de_tup {x1} (ha : DA X Γ es t) : DE X Γ (.Tuple es x1 pos) (dTup t) :=
  ⟨mono_tup ha.mono, pe_imp (pe_tup ha.pa) fun σ H Q ⟨σd, h, rs, rm, w⟩ => lift_mk ha.mono rs rm w fun xs h1 vs H1 px rs1 rvs rm1 w1 => by
    cases q : fzs xs h1 with
    | none => rw [q] at w1; exact w1.elim
    | some p =>
      obtain ⟨ds, h2⟩ := p
      rw [q] at w1
      obtain ⟨p1, rm2, dd⟩ := fzs_ok rvs rm1 q
      refine ⟨by rw [dps_len dd]; exact w1.1, fun p hp => ?_⟩
      obtain ⟨p2, rm3, rv3⟩ := new_tup hp rm2 dd
      exact w1.2 _ _ ((px.trans p1).trans p2) rv3 rm3⟩
theorem df_lst (ha : DA X Γ es t) : DF X Γ (.List es pos) (fLst t) :=
  ⟨mono_fLst ha.mono, pe_imp (pe_lst ha.pa) fun σ H Q ⟨σd, h, rs, rm, w⟩ => lift_mk ha.mono rs rm w fun xs h1 vs H1 px rs1 rvs rm1 w1 => by
    cases q : fzs xs h1 with
    | none => rw [q] at w1; exact w1.elim
    | some p =>
      obtain ⟨ds, h2⟩ := p
      rw [q] at w1
      obtain ⟨p1, rm2, dd⟩ := fzs_ok rvs rm1 q
      exact ⟨by rw [dps_len dd]; exact w1.1, fun p hp => w1.2 _ _ _ (px.trans p1) dd rm2 hp⟩⟩
/-- f(e, ..) of a builtin -/
def dB (r : DRA) (t : DTA) : DTE := fun σ h Q => t σ h fun xs h1 => r xs h1 Q
def fB (r : DRF) (t : DTA) : DTF := fun σ h Q => t σ h fun xs h1 => r xs h1 Q
theorem mono_B {r : DRA} (mr : ∀ xs h (Q Q' : DK), (∀ z h', Q z h' → Q' z h') → r xs h Q → r xs h Q') (m : Mono t) : Mono (dB r t) := fun σ h Q Q' k w => m _ _ _ _ (fun xs h1 w1 => mr _ _ _ _ k w1) w
theorem mono_FB {r : DRF} (mr : ∀ xs h (Q Q' : List PyData → MH → Prop), (∀ z h', Q z h' → Q' z h') → r xs h Q → r xs h Q') (m : Mono t) : Mono (fB r t) := fun σ h Q Q' k w => m _ _ _ _ (fun xs h1 w1 => mr _ _ _ _ k w1) w
theorem B_lift {K : PySem.W.Frag} {r' : DRA} {r : List V → Hp → VK → Prop} (l : LRA K Γ r' r) (m : Mono t) : ∀ σ H Q, liftV K Γ (dB r' t) σ H Q → tCB r (liftA K Γ t) σ H Q := fun σ H Q ⟨σd, h, rs, rm, w⟩ =>
  lift_mk m rs rm w fun xs h1 vs H1 px rs1 rvs rm1 w1 => l.run xs vs H1 h1 _ Q rvs rm1 w1 fun z h2 w' H2 px2 rz rm2 q => q w' H2 (px.trans px2) rz rm2
theorem FB_lift {K : PySem.W.Frag} {r' : DRF} {r : List V → Hp → VK → Prop} (l : LRF K Γ r' r) (m : Mono t) : ∀ σ H Q, liftF K Γ (fB r' t) σ H Q → tCB r (liftA K Γ t) σ H Q := fun σ H Q ⟨σd, h, rs, rm, w⟩ =>
  lift_mk m rs rm w fun xs h1 vs H1 px rs1 rvs rm1 w1 => l.run xs vs H1 h1 _ Q rvs rm1 w1 fun z h2 w' H2 p px2 rz rm2 q n => q w' H2 p (px.trans px2) rz rm2 n
variable {x : Str} {p : Pos} {id T : String} {r : List V → Hp → VK → Prop}
theorem de_callB {r' : DRA} (hc : CallR X (.builtin id) r) (l : LRA X.K Γ r' r) (hg : Gl X x) (hm : X.mg x = none) (hv : bootBuiltins x = some (.builtin id)) (ha : DA X Γ (e :: es) t) (hn : x ≠ "__name__" := by decide) (hdb : (x == ("__debug__" : Str)) = false := by decide)
    (he : starEach (e :: es) X.env = (false, eval e X.env) :: starEach es X.env := by rfl) (hpl : (backTo pos (starEach es X.env)).any (·.1) = false := by rfl) : DE X Γ (.Call (.Name x p) (e :: es) [] pos) (dB r' t) :=
  ⟨mono_B l.mono ha.mono, pe_imp (pe_callB hc hg hm hv ha.pa hn hdb he hpl) (B_lift l ha.mono)⟩
theorem de_callTy {r' : DRA} (hc : CallR X (.type T) r) (l : LRA X.K Γ r' r) (hg : Gl X x) (hm : X.mg x = none) (hv : bootBuiltins x = some (.type T)) (ha : DA X Γ (e :: es) t) (hn : x ≠ "__name__" := by decide) (hdb : (x == ("__debug__" : Str)) = false := by decide)
    (he : starEach (e :: es) X.env = (false, eval e X.env) :: starEach es X.env := by rfl) (hpl : (backTo pos (starEach es X.env)).any (·.1) = false := by rfl) : DE X Γ (.Call (.Name x p) (e :: es) [] pos) (dB r' t) :=
  ⟨mono_B l.mono ha.mono, pe_imp (pe_callTy hc hg hm hv ha.pa hn hdb he hpl) (B_lift l ha.mono)⟩
theorem df_callB {r' : DRF} (hc : CallR X (.builtin id) r) (l : LRF X.K Γ r' r) (hg : Gl X x) (hm : X.mg x = none) (hv : bootBuiltins x = some (.builtin id)) (ha : DA X Γ (e :: es) t) (hn : x ≠ "__name__" := by decide) (hdb : (x == ("__debug__" : Str)) = false := by decide)
    (he : starEach (e :: es) X.env = (false, eval e X.env) :: starEach es X.env := by rfl) (hpl : (backTo pos (starEach es X.env)).any (·.1) = false := by rfl) : DF X Γ (.Call (.Name x p) (e :: es) [] pos) (fB r' t) :=
  ⟨mono_FB l.mono ha.mono, pe_imp (pe_callB hc hg hm hv ha.pa hn hdb he hpl) (FB_lift l ha.mono)⟩
theorem df_callTy {r' : DRF} (hc : CallR X (.type T) r) (l : LRF X.K Γ r' r) (hg : Gl X x) (hm : X.mg x = none) (hv : bootBuiltins x = some (.type T)) (ha : DA X Γ (e :: es) t) (hn : x ≠ "__name__" := by decide) (hdb : (x == ("__debug__" : Str)) = false := by decide)
    (he : starEach (e :: es) X.env = (false, eval e X.env) :: starEach es X.env := by rfl) (hpl : (backTo pos (starEach es X.env)).any (·.1) = false := by rfl) : DF X Γ (.Call (.Name x p) (e :: es) [] pos) (fB r' t) :=
  ⟨mono_FB l.mono ha.mono, pe_imp (pe_callTy hc hg hm hv ha.pa hn hdb he hpl) (FB_lift l ha.mono)⟩
end
end DL

namespace DL
open PySem PySem.Spec PyProof.Rows L2
set_option autoImplicit true

def asInt : SV → Option Int
  | .d (.int i) => some i
  | _ => none
def asStr : SV → Option Str
  | .d (.str i) => some i
  | _ => none
def asBool : SV → Option Bool
  | .d (.bool i) => some i
  | _ => none
section
variable {K : PySem.W.Frag} {H : Hp} {h : MH} {x y : SV} {v : V}
theorem asInt_ok {i : Int} (r : RV K Γ H h x v) (e : asInt x = some i) : v = .int i := by
  cases x with
  | own a => cases e
  | d x => cases x with
    | int j => cases e; have r' : Dp K (Fz Γ H h) v (.int i) := r; cases r'; rfl
    | _ => cases e
theorem asStr_ok {i : Str} (r : RV K Γ H h x v) (e : asStr x = some i) : v = .str i := by
  cases x with
  | own a => cases e
  | d x => cases x with
    | str j => cases e; have r' : Dp K (Fz Γ H h) v (.str i) := r; cases r'; rfl
    | _ => cases e
theorem asBool_ok {i : Bool} (r : RV K Γ H h x v) (e : asBool x = some i) : v = .bl i := by
  cases x with
  | own a => cases e
  | d x => cases x with
    | bool j => cases e; have r' : Dp K (Fz Γ H h) v (.bool i) := r; cases r'; rfl
    | _ => cases e
theorem rv_int {i : Int} : RV K Γ H h (.d (.int i)) (.int i) := Dp.int i
theorem rv_bl {i : Bool} : RV K Γ H h (.d (.bool i)) (.bl i) := Dp.bl i
theorem rv_str {i : Str} : RV K Γ H h (.d (.str i)) (.str i) := Dp.str i
theorem rv_non : RV K Γ H h (.d .none) .non := Dp.non
end

def rdI (C : Int → Int → Prop) (g : Int → Int → PyData) : DR2 := fun x y h Q => match asInt x, asInt y with
  | some i, some j => C i j ∧ Q (.d (g i j)) h
  | _, _ => False
def rdI0 (g : Int → Int → PyData) : DR2 := fun x y h Q => match asInt x, asInt y with
  | some i, some j => Q (.d (g i j)) h
  | _, _ => False
section
variable {K : PySem.W.Frag}
theorem lr_I {C : Int → Int → Prop} {g : Int → Int → V} {gd : Int → Int → PyData} (hg : ∀ i j H, Dp K H (g i j) (gd i j)) : LR2 K Γ (rdI C gd) (rI C g) := by
  refine ⟨fun x y h Q Q' k w => ?_, fun x y v u H h C' Q rv ru rm w k => ?_⟩
  · unfold rdI at w ⊢
    split at w
    · exact ⟨w.1, k _ _ w.2⟩
    · exact w
  · unfold rdI at w
    split at w
    · rename_i i j e1 e2
      exact ⟨i, j, asInt_ok rv e1, asInt_ok ru e2, w.1, k (.d (gd i j)) _ _ H PX.refl (hg i j _) rm w.2⟩
    · exact w.elim
theorem lr_I0 {g : Int → Int → V} {gd : Int → Int → PyData} (hg : ∀ i j H, Dp K H (g i j) (gd i j)) : LR2 K Γ (rdI0 gd) (rI0 g) := by
  refine ⟨fun x y h Q Q' k w => ?_, fun x y v u H h C' Q rv ru rm w k => ?_⟩
  · unfold rdI0 at w ⊢
    split at w
    · exact k _ _ w
    · exact w
  · unfold rdI0 at w
    split at w
    · rename_i i j e1 e2
      exact ⟨i, j, asInt_ok rv e1, asInt_ok ru e2, k (.d (gd i j)) _ _ H PX.refl (hg i j _) rm w⟩
    · exact w.elim
abbrev rdSub : DR2 := rdI0 fun i j => .int (i - j)
abbrev rdDiv : DR2 := rdI CDivN fun i j => .int (i.fdiv j)
abbrev rdMod : DR2 := rdI (fun _ j => j ≠ 0) fun i j => .int (i.fmod j)
abbrev rdPow : DR2 := rdI CPow fun i j => .int (i ^ j.toNat)
/-- of two tuples of ints: by the first pair that differs, else by their lengths -/
def cmpT (r : Int → Int → Bool) (z : Bool) : List Int → List Int → Bool
  | x :: xs, y :: ys => if x = y then cmpT r z xs ys else r x y
  | [], _ => z
  | _ :: _, [] => z
def intsD : List PyData → Option (List Int)
  | [] => some []
  | .int i :: r => match intsD r with
    | some ns => some (i :: ns)
    | none => none
  | _ => none
def tupI : SV → Option (List Int)
  | .d (.tuple ds) => intsD ds
  | _ => none
def rdCmp (g : Int → Int → Bool) (z : Nat → Nat → Bool) : DR2 := fun x y h Q => match asInt x, asInt y with
  | some i, some j => Q (.d (.bool (g i j))) h
  | _, _ => match tupI x, tupI y with
    | some ns, some ms => Q (.d (.bool (cmpT g (z ns.length ms.length) ns ms))) h
    | _, _ => False
abbrev rdLt : DR2 := rdCmp (fun i j => decide (i < j)) (fun n m => decide (n < m))
abbrev rdLe : DR2 := rdCmp (fun i j => decide (i ≤ j)) (fun n m => decide (n ≤ m))
abbrev rdGt : DR2 := rdCmp (fun i j => decide (j < i)) (fun n m => decide (n > m))
abbrev rdGe : DR2 := rdCmp (fun i j => decide (j ≤ i)) (fun n m => decide (n ≥ m))
theorem lexAt_shift {e r : Nat → Bool} {z : Bool} : ∀ k i, Ob.lexAt e r z (i + 1) k = Ob.lexAt (fun j => e (j + 1)) (fun j => r (j + 1)) z i k
  | 0, _ => rfl
  | k + 1, i => by rw [Ob.lexAt_succ, Ob.lexAt_succ, lexAt_shift k (i + 1)]
theorem lex_cmp {r : Int → Int → Bool} {z : Bool} : ∀ ns ms : List Int, Ob.lexAt (fun j => decide (ns.getD j 0 = ms.getD j 0)) (fun j => r (ns.getD j 0) (ms.getD j 0)) z 0 (min ns.length ms.length) = cmpT r z ns ms
  | [], ms => by simp [Ob.lexAt, cmpT]
  | x :: xs, [] => by simp [Ob.lexAt, cmpT]
  | x :: xs, y :: ys => by
    have ih := lex_cmp (r := r) (z := z) xs ys
    rw [List.length_cons, List.length_cons, Nat.succ_min_succ, Ob.lexAt_succ, lexAt_shift]
    unfold cmpT
    simp only [List.getD_cons_zero, List.getD_cons_succ, decide_eq_true_eq]
    rw [ih]
def rTc (K : PySem.W.Frag) (r : Int → Int → Bool) (z : Nat → Nat → Bool) : R2 := fun x y H Q => ∃ (a b : Addr) (ns ms : List Int), x = .ref a ∧ y = .ref b ∧ SqT K H a (ns.map V.int) ∧ SqT K H b (ms.map V.int) ∧ Q (.bl (cmpT r (z ns.length ms.length) ns ms)) H
theorem op_tc {X : Cx} {op : CmpOp} {r : Int → Int → Bool} {z : Nat → Nat → Bool} (hC : ∀ v u, compareOp op v u = richCompare op v u) (hu : X.A.units < cLine)
    (hT : ∀ {A : Around} {s : Shared} {l b : Addr} {items items2 : Array Value} {e r : Nat → Bool}, s.heap.IsTuple l items → s.heap.IsTuple b items2 → A.units < cLine → (∀ j (h1 : j < items.size) (h2 : j < items2.size), SeqAt.EqAt A.in1 s items[j] items2[j] (e j)) →
      (∀ j (h1 : j < items.size) (h2 : j < items2.size), e j = false → Ob.RcOp op A.in1 s items[j] items2[j] (r j)) → Ob.RcOp op A s (.ref l) (.ref b) (Ob.lexAt e r (z items.size items2.size) 0 (min items.size items2.size)))
    (hI : ∀ {A : Around} {s : Shared} (a b : Int) (t u : Tok), Ob.RcOp op A s (.int a t) (.int b u) (r a b)) : OpR X (compareOp op) (rTc X.K r z) := by
  intro pins s σ H x y v u Q I rx ry h
  obtain ⟨a, b, ns, ms, rfl, rfl, ha, hb, q⟩ := h
  cases rx
  cases ry
  obtain ⟨its, r1, p1, _⟩ := I.tuple ha
  obtain ⟨its2, r2, p2, _⟩ := I.tuple hb
  have i1 : IntsAre its ns := Vals.ints r1
  have i2 : IntsAre its2 ms := Vals.ints r2
  have e1 : its.toArray.size = ns.length := by rw [List.size_toArray]; exact i1.length
  have e2 : its2.toArray.size = ms.length := by rw [List.size_toArray]; exact i2.length
  have at1 : ∀ j (h1 : j < its.toArray.size), ∃ t, its.toArray[j] = .int (ns.getD j 0) t := fun j h1 => PyProof.Rows.IntsAre.int_at i1 _ _ (by simp at h1; simp [h1])
  have at2 : ∀ j (h1 : j < its2.toArray.size), ∃ t, its2.toArray[j] = .int (ms.getD j 0) t := fun j h1 => PyProof.Rows.IntsAre.int_at i2 _ _ (by simp at h1; simp [h1])
  have R := hT (A := X.A) (s := s) (e := fun j => decide (ns.getD j 0 = ms.getD j 0)) (r := fun j => r (ns.getD j 0) (ms.getD j 0)) p1 p2 hu (fun j h1 h2 => by
    obtain ⟨t, et⟩ := at1 j h1
    obtain ⟨t', et'⟩ := at2 j h2
    rw [et, et']
    have z : (ns.getD j 0 == ms.getD j 0) = decide (ns.getD j 0 = ms.getD j 0) := by
      by_cases q : ns.getD j 0 = ms.getD j 0
      · rw [decide_eq_true q]; exact beq_iff_eq.mpr q
      · rw [decide_eq_false q]; exact beq_eq_false_iff_ne.mpr q
    rw [← z]
    exact SeqAt.EqAt.int_int _ _ _ _) (fun j h1 h2 _ => by
    obtain ⟨t, et⟩ := at1 j h1
    obtain ⟨t', et'⟩ := at2 j h2
    rw [et, et']
    exact hI _ _ _ _)
  rw [e1, e2, lex_cmp] at R
  rw [hC]
  exact R X.prog X.w X.xe (EP X pins σ Q) ⟨.bl _, H, I, rfl, q⟩
def rCmpG (K : PySem.W.Frag) (g : Int → Int → Bool) (z : Nat → Nat → Bool) : R2 := fun x y H Q => rI0 (fun i j => .bl (g i j)) x y H Q ∨ rTc K g z x y H Q
theorem op_ltG {X : Cx} (hu : X.A.units + 1 < cLine) : OpR X (compareOp .Lt) (rCmpG X.K (fun i j => decide (i < j)) (fun n m => decide (n < m))) := OpR.or op_lt (op_tc (fun _ _ => rfl) (by omega) (fun p q hu he hr => Ob.RcOp.tuples_lt p q hu he hr) (fun a b t u => Ob.RcOp.lt_int a b t u))
theorem op_gtG {X : Cx} (hu : X.A.units + 1 < cLine) : OpR X (compareOp .Gt) (rCmpG X.K (fun i j => decide (j < i)) (fun n m => decide (n > m))) := OpR.or op_gt (op_tc (fun _ _ => rfl) (by omega) (fun p q hu he hr => Ob.RcOp.tuples_gt p q hu he hr) (fun a b t u => Ob.RcOp.gt_int a b t u))
theorem op_geG {X : Cx} (hu : X.A.units + 1 < cLine) : OpR X (compareOp .GtE) (rCmpG X.K (fun i j => decide (j ≤ i)) (fun n m => decide (n ≥ m))) := OpR.or op_ge (op_tc (fun _ _ => rfl) (by omega) (fun p q hu he hr => Ob.RcOp.tuples_ge p q hu he hr) (fun a b t u => Ob.RcOp.ge_int a b t u))
theorem intsD_ok {F : Hp} : ∀ {ds : List PyData} {vs : List V} {ns : List Int}, DpAll K F vs ds → intsD ds = some ns → vs = ns.map V.int
  | [], _, _, r, e => by cases r; cases e; rfl
  | d :: ds, _, ns, r, e => by
    cases r with
    | cons h1 h2 =>
      cases d with
      | int i =>
        unfold intsD at e
        cases q : intsD ds with
        | none => rw [q] at e; cases e
        | some ms =>
          rw [q] at e
          cases e
          cases h1
          rw [intsD_ok h2 q]
          rfl
      | _ => cases e
theorem tupI_ok {H : Hp} {h : MH} {x : SV} {v : V} {ns : List Int} (r : RV K Γ H h x v) (e : tupI x = some ns) : ∃ a, v = .ref a ∧ SqT K H a (ns.map V.int) := by
  cases x with
  | own _ => cases e
  | d x =>
    cases x with
    | tuple ds =>
      have r' : Dp K (Fz Γ H h) v (.tuple ds) := r
      cases r' with
      | @tup a vs _ h1 h2 =>
        rw [intsD_ok h2 e] at h1
        exact ⟨a, rfl, sqT_up fz_sub h1⟩
    | _ => cases e
theorem lr_cmp {g : Int → Int → Bool} {z : Nat → Nat → Bool} : LR2 K Γ (rdCmp g z) (rCmpG K g z) := by
  refine ⟨fun x y h Q Q' k w => ?_, fun x y v u H h C' Q rv ru rm w k => ?_⟩
  · unfold rdCmp at w ⊢
    split at w
    · exact k _ _ w
    · split at w
      · exact k _ _ w
      · exact w
  · unfold rdCmp at w
    split at w
    · rename_i i j e1 e2
      exact .inl ⟨i, j, asInt_ok rv e1, asInt_ok ru e2, k _ _ _ H PX.refl rv_bl rm w⟩
    · split at w
      · rename_i ns ms e1 e2
        obtain ⟨a, ea, sa⟩ := tupI_ok rv e1
        obtain ⟨b, eb, sb⟩ := tupI_ok ru e2
        exact .inr ⟨a, b, ns, ms, ea, eb, sa, sb, k _ _ _ H PX.refl rv_bl rm w⟩
      · exact w.elim
theorem lr_sub : LR2 K Γ rdSub (rI0 fun i j => .int (i - j)) := lr_I0 fun _ _ _ => .int _
theorem lr_div : LR2 K Γ rdDiv (rI CDivN fun i j => .int (i.fdiv j)) := lr_I fun _ _ _ => .int _
theorem lr_mod : LR2 K Γ rdMod (rI (fun _ j => j ≠ 0) fun i j => .int (i.fmod j)) := lr_I fun _ _ _ => .int _
theorem lr_pow : LR2 K Γ rdPow (rI CPow fun i j => .int (i ^ j.toNat)) := lr_I fun _ _ _ => .int _
theorem lr_lt : LR2 K Γ rdLt (rCmpG K (fun i j => decide (i < j)) (fun n m => decide (n < m))) := lr_cmp
theorem lr_gt : LR2 K Γ rdGt (rCmpG K (fun i j => decide (j < i)) (fun n m => decide (n > m))) := lr_cmp
theorem lr_ge : LR2 K Γ rdGe (rCmpG K (fun i j => decide (j ≤ i)) (fun n m => decide (n ≥ m))) := lr_cmp
end

def rCatG (K : PySem.W.Frag) : R2 := fun x y H Q => ∃ a b xs ys, x = .ref a ∧ y = .ref b ∧ SqL K H a xs ∧ SqL K H b ys ∧ xs.length + ys.length ≤ sizeLine ∧ ∀ p, H p = none → Q (.ref p) (upd H p (.lst (xs ++ ys)))
theorem op_catG {X : Cx} : OpR X (binaryOp .Add) (rCatG X.K) := by
  intro pins s σ H x y v u Q I rx ry w
  obtain ⟨a, b, xs, ys, rfl, rfl, ha, hb, hz, q⟩ := w
  cases rx
  cases ry
  obtain ⟨i1, r1, ⟨⟨c1, d1, t1, l1⟩, n1, o1, k1, _, e1⟩, _⟩ := I.list ha
  obtain ⟨i2, r2, ⟨⟨c2, d2, t2, l2⟩, n2, o2, k2, _, e2⟩, _⟩ := I.list hb
  simp only at k1 e1 k2 e2
  subst k1 e1 k2 e2
  have f1 := r1.length
  have f2 := r2.length
  have ee : i1.toArray ++ i2.toArray = (i1 ++ i2).toArray := by simp
  refine concat_meets ⟨_, o1, rfl⟩ ⟨_, o2, rfl⟩ noFill_list_add seq_list_add PySem.F.slot_list_add PySem.F.entry_list_add (PySem.F.args_list_add_2 _ _)
    (list_addW a b i1.toArray i2.toArray n1 n2 d1 d2 l1 l2 (by simp only [List.size_toArray]; omega)) ⟨o1, o2, ?_⟩
  rw [ee]
  exact ⟨.ref _, _, I.lnew (t' := s.toks) (r1.append r2) (by rw [List.length_append]; omega), rfl, q _ I.fresh⟩
def rStrCat : R2 := fun x y H Q => ∃ i j, x = .str i ∧ y = .str j ∧ i.length + j.length ≤ sizeLine ∧ Q (.str (i ++ j)) H
def rAddAll (K : PySem.W.Frag) : R2 := fun x y H Q => rI0 (fun i j => .int (i + j)) x y H Q ∨ rStrCat x y H Q ∨ rCatA K x y H Q ∨ rCatG K x y H Q
theorem op_addAll {X : Cx} : OpR X (binaryOp .Add) (rAddAll X.K) := op_add.or (OpR.or op_add_str (OpR.or op_catA op_catG))
def rdAdd : DR2 := fun x y h Q => match asInt x, asInt y with
  | some i, some j => Q (.d (.int (i + j))) h
  | _, _ => match asStr x, asStr y with
    | some a, some b => a.length + b.length ≤ sizeLine ∧ Q (.d (.str (a ++ b))) h
    | _, _ => match asT x, asT y with
      | some a, some b => a.length + b.length ≤ sizeLine ∧ Q (.d (.tuple (a ++ b))) h
      | _, _ => match asL h x, asL h y with
        | some a, some b => a.length + b.length ≤ sizeLine ∧ Q (.d (.list (a ++ b))) h
        | _, _ => False
theorem dps_nil' {K : PySem.W.Frag} {H : Hp} {ds : List PyData} (h : DpAll K H [] ds) : ds = [] := by cases h; rfl
theorem lr_add {K : PySem.W.Frag} : LR2 K Γ rdAdd (rAddAll K) := by
  refine ⟨fun x y h Q Q' k w => ?_, fun x y v u H h C' Q rv ru rm w k => ?_⟩
  · unfold rdAdd at w ⊢
    split at w
    · exact k _ _ w
    · split at w
      · exact ⟨w.1, k _ _ w.2⟩
      · split at w
        · exact ⟨w.1, k _ _ w.2⟩
        · split at w
          · exact ⟨w.1, k _ _ w.2⟩
          · exact w
  · unfold rdAdd at w
    split at w
    · rename_i i j e1 e2
      exact .inl ⟨i, j, asInt_ok rv e1, asInt_ok ru e2, k _ _ _ H PX.refl rv_int rm w⟩
    · split at w
      · rename_i i j e1 e2
        exact .inr (.inl ⟨i, j, asStr_ok rv e1, asStr_ok ru e2, w.1, k _ _ _ H PX.refl rv_str rm w.2⟩)
      · split at w
        · rename_i i j e1 e2
          obtain ⟨a, xs, rfl, s1, d1⟩ := asT_ok rv e1
          obtain ⟨b, ys, rfl, s2, d2⟩ := asT_ok ru e2
          refine .inr (.inr (.inl ⟨a, b, xs, ys, rfl, rfl, s1, s2, by rw [dps_len d1, dps_len d2]; exact w.1, fun z => ?_, fun z1 z2 => ?_, fun z1 z2 p hp => ?_⟩))
          · subst z
            have z := dps_nil' d1
            subst z
            cases x with
            | own _ => cases e1
            | d x => cases x with
              | tuple xs =>
                cases e1
                cases y with
                | own _ => cases e2
                | d y => cases y with
                  | tuple ys => cases e2; exact k _ _ _ H PX.refl ru rm w.2
                  | _ => cases e2
              | _ => cases e1
          · subst z2
            have z := dps_nil' d2
            subst z
            cases x with
            | own _ => cases e1
            | d x => cases x with
              | tuple xs =>
                cases e1
                have w2 := w.2
                rw [List.append_nil] at w2
                exact k _ _ _ H PX.refl rv rm w2
              | _ => cases e1
          · obtain ⟨p1, r1, v1⟩ := new_tup hp rm (dps_app d1 d2)
            exact k _ _ _ _ p1 v1 r1 w.2
        · split at w
          · rename_i i j e1 e2
            obtain ⟨a, xs, rfl, s1, d1⟩ := asL_ok rv rm e1
            obtain ⟨b, ys, rfl, s2, d2⟩ := asL_ok ru rm e2
            refine .inr (.inr (.inr ⟨a, b, xs, ys, rfl, rfl, s1, s2, by rw [dps_len d1, dps_len d2]; exact w.1, fun p hp => ?_⟩))
            obtain ⟨p1, r1, v1⟩ := new_list hp rm (dps_app d1 d2)
            exact k _ _ _ _ p1 v1 r1 w.2
          · exact w.elim

def rRepG (K : PySem.W.Frag) : R2 := fun x y H Q => ∃ l k xs, x = .ref l ∧ y = .int k ∧ SqL K H l xs ∧ -(2 ^ 63) ≤ k ∧ k < 2 ^ 63 ∧ xs.length * k.toNat ≤ sizeLine ∧ ∀ p, H p = none → Q (.ref p) (upd H p (.lst (List.replicate k.toNat xs).flatten))
theorem op_repG {X : Cx} : OpR X (binaryOp .Mult) (rRepG X.K) := by
  intro pins s σ H x y v u Q I rx ry w
  obtain ⟨l, k, xs, rfl, rfl, hl, b1, b2, hz, q⟩ := w
  cases rx
  obtain ⟨t, rfl⟩ := ry
  obtain ⟨i1, r1, ⟨⟨c1, d1, t1, l1⟩, n1, o1, k1, _, e1⟩, _⟩ := I.list hl
  simp only at k1 e1
  subst k1 e1
  have f1 := r1.length
  have hz' : i1.toArray.size * k.toNat ≤ 2 ^ 24 := by
    rw [List.size_toArray, ← f1]
    exact hz
  refine wpAny_binaryOp_repeat_ref (T := "list") (U := "int") (by decide) ⟨_, o1, rfl⟩ (fun s' => typeIs_int s' k t) noFill_list_mul PySem.F.fills_int_mul PySem.F.slot_int_rmul repeat_list PySem.F.slot_int_index.lookup
    (call_meets PySem.F.slot_int_rmul (typeIs_int s k t) PySem.F.entry_int_rmul (PySem.F.args_int_rmul_2 _ _) (lm_int_rmul_list_any k t l i1.toArray n1 d1 l1)
      ⟨o1, rfl, ⟨_, o1, rfl⟩, call_meets PySem.F.slot_list_mul ⟨_, o1, rfl⟩ PySem.F.entry_list_mul (PySem.F.args_list_mul_2 _ _)
        (lm_list_mul_any l i1.toArray n1 d1 l1 k t (by simp [Builtin.List.listFitsIndex]; omega) (by omega) (by simp [Builtin.List.listTooLong, sizeLine]; simp at hz'; omega)) ⟨o1, ?_⟩⟩)
  rw [listMul_foldl_if]
  exact ⟨.ref _, _, I.lnew (t' := s.toks) (r1.rep k.toNat) (by rw [lm_len_rep_flat, Nat.mul_comm]; exact hz), rfl, q _ I.fresh⟩
def rMulAll (K : PySem.W.Frag) : R2 := fun x y H Q => rI CMul (fun i j => .int (i * j)) x y H Q ∨ rRepG K x y H Q
theorem op_mulAll {X : Cx} : OpR X (binaryOp .Mult) (rMulAll X.K) := op_mul.or op_repG
def rdMul : DR2 := fun x y h Q => match asInt y with
  | some j => match asInt x with
    | some i => CMul i j ∧ Q (.d (.int (i * j))) h
    | none => match asL h x with
      | some a => -(2 ^ 63) ≤ j ∧ j < 2 ^ 63 ∧ a.length * j.toNat ≤ sizeLine ∧ Q (.d (.list (List.replicate j.toNat a).flatten)) h
      | none => False
  | none => False
theorem lr_mul {K : PySem.W.Frag} : LR2 K Γ rdMul (rMulAll K) := by
  refine ⟨fun x y h Q Q' k w => ?_, fun x y v u H h C' Q rv ru rm w k => ?_⟩
  · unfold rdMul at w ⊢
    split at w
    · split at w
      · exact ⟨w.1, k _ _ w.2⟩
      · split at w
        · exact ⟨w.1, w.2.1, w.2.2.1, k _ _ w.2.2.2⟩
        · exact w
    · exact w
  · unfold rdMul at w
    split at w
    · rename_i j e2
      split at w
      · rename_i i e1
        exact .inl ⟨i, j, asInt_ok rv e1, asInt_ok ru e2, w.1, k _ _ _ H PX.refl rv_int rm w.2⟩
      · split at w
        · rename_i a e1
          obtain ⟨l, xs, rfl, s1, d1⟩ := asL_ok rv rm e1
          refine .inr ⟨l, j, xs, rfl, asInt_ok ru e2, s1, w.1, w.2.1, by rw [dps_len d1]; exact w.2.2.1, fun p hp => ?_⟩
          obtain ⟨p1, r1, v1⟩ := new_list hp rm (dps_rep d1 j.toNat)
          exact k _ _ _ _ p1 v1 r1 w.2.2.2
        · exact w.elim
    · exact w.elim

theorem asD_ok {K : PySem.W.Frag} {H : Hp} {h : MH} {x : SV} {v : V} {d : PyData} (rv : RV K Γ H h x v) (rm : RM K Γ H h) (e : asD h x = some d) : Dp K H v d := by
  cases x with
  | d y => cases e; exact dp_up fz_sub _ _ rv
  | own a =>
    cases q : h a with
    | none => simp only [asD, q] at e; cases e
    | some m =>
      cases m with
      | lst xs =>
        simp only [asD, q] at e; cases e
        obtain ⟨vs, e1, e2⟩ := rm.ob a _ q
        have rv' : v = .ref a := rv
        subst rv'
        exact .lst (SqL.of e1) (dps_up fz_sub _ _ e2)
      | _ => simp only [asD, q] at e; cases e
def strs2 (d e : PyData) : Bool := match d, e with
  | .str _, .str _ => true
  | _, _ => false
/-- plain data of few levels, or two texts -/
def eqOk (d e : PyData) : Prop := (SeqAt.shaped d = true ∧ SeqAt.shaped e = true) ∨ strs2 d e = true
def rdEq : DR2 := fun x y h Q => match asD h x, asD h y with
  | some d, some e => eqOk d e ∧ Q (.d (.bool (PyData.eqv d e))) h
  | _, _ => False
def rdNe : DR2 := fun x y h Q => match asD h x, asD h y with
  | some d, some e => eqOk d e ∧ Q (.d (.bool (!PyData.eqv d e))) h
  | _, _ => False
def rEqA (K : PySem.W.Frag) : R2 := fun x y H Q => rEqD K x y H Q ∨ rEq x y H Q
def rNeA (K : PySem.W.Frag) : R2 := fun x y H Q => rNeD K x y H Q ∨ rNe x y H Q
theorem op_eqA {X : Cx} (hu : X.A.units + 64 < cLine) : OpR X (compareOp .Eq) (rEqA X.K) := OpR.or (op_eqD hu) op_eq
theorem op_neA {X : Cx} (hu : X.A.units + 64 < cLine) : OpR X (compareOp .NotEq) (rNeA X.K) := OpR.or (op_neD hu) op_ne
theorem strs2_ok {K : PySem.W.Frag} {H : Hp} {v u : V} {d e : PyData} (h : strs2 d e = true) (r1 : Dp K H v d) (r2 : Dp K H u e) : scal v u = true ∧ decide (v = u) = PyData.eqv d e := by
  cases d <;> cases e <;> first | (cases h; done) | (cases r1; cases r2; exact ⟨rfl, by rw [dec_str]; simp only [PyData.eqv]⟩)
section
variable {K : PySem.W.Frag}
theorem lr_eq : LR2 K Γ rdEq (rEqA K) := by
  refine ⟨fun x y h Q Q' k w => ?_, fun x y v u H h C' Q rv ru rm w k => ?_⟩
  · unfold rdEq at w ⊢
    split at w
    · exact ⟨w.1, k _ _ w.2⟩
    · exact w
  · unfold rdEq at w
    split at w
    · rename_i d e e1 e2
      rcases w.1 with z | z
      · exact .inl ⟨d, e, asD_ok rv rm e1, asD_ok ru rm e2, z.1, z.2, k _ _ _ H PX.refl rv_bl rm w.2⟩
      · obtain ⟨z1, z2⟩ := strs2_ok z (asD_ok rv rm e1) (asD_ok ru rm e2)
        exact .inr ⟨z1, by rw [z2]; exact k _ _ _ H PX.refl rv_bl rm w.2⟩
    · exact w.elim
theorem lr_ne : LR2 K Γ rdNe (rNeA K) := by
  refine ⟨fun x y h Q Q' k w => ?_, fun x y v u H h C' Q rv ru rm w k => ?_⟩
  · unfold rdNe at w ⊢
    split at w
    · exact ⟨w.1, k _ _ w.2⟩
    · exact w
  · unfold rdNe at w
    split at w
    · rename_i d e e1 e2
      rcases w.1 with z | z
      · exact .inl ⟨d, e, asD_ok rv rm e1, asD_ok ru rm e2, z.1, z.2, k _ _ _ H PX.refl rv_bl rm w.2⟩
      · obtain ⟨z1, z2⟩ := strs2_ok z (asD_ok rv rm e1) (asD_ok ru rm e2)
        exact .inr ⟨z1, by rw [z2]; exact k _ _ _ H PX.refl rv_bl rm w.2⟩
    · exact w.elim

theorem isNone_ok {H : Hp} {h : MH} {x : SV} {v : V} (rv : RV K Γ H h x v) : decide (v = .non) = isNone x := by
  cases x with
  | own a => have rv' : v = .ref a := rv; subst rv'; simp [isNone]
  | d x =>
    have rv' : Dp K (Fz Γ H h) v x := rv
    cases rv' <;> simp [isNone]
def rdIsN : DR2 := fun x y h Q => isNone y = true ∧ Q (.d (.bool (isNone x))) h
def rdNotN : DR2 := fun x y h Q => isNone y = true ∧ Q (.d (.bool (!isNone x))) h
theorem lr_notN : LR2 K Γ rdNotN (fun x y H Q => y = .non ∧ Q (.bl (!decide (x = .non))) H) := by
  refine ⟨fun x y h Q Q' k w => ⟨w.1, k _ _ w.2⟩, fun x y v u H h C' Q rv ru rm w k => ⟨?_, ?_⟩⟩
  · have z := isNone_ok ru
    rw [w.1] at z
    exact of_decide_eq_true z
  · rw [isNone_ok rv]
    exact k _ _ _ H PX.refl rv_bl rm w.2

def ownO (h : MH) : SV → Option (Addr × MO)
  | .own a => match h a with
    | some (.lst _) => none
    | some o => some (a, o)
    | none => none
  | .d _ => none
theorem ownO_ok {h : MH} {x : SV} {a : Addr} {o : MO} (e : ownO h x = some (a, o)) : x = .own a ∧ h a = some o := by
  cases x with
  | d _ => cases e
  | own b =>
    unfold ownO at e
    cases q : h b with
    | none => simp only [q] at e; cases e
    | some m => cases m <;> simp only [q] at e <;> cases e <;> exact ⟨rfl, q⟩
theorem ownO_asL {h : MH} {x : SV} {xs : List PyData} (e : asL h x = some xs) : ownO h x = none := by
  cases x with
  | d _ => rfl
  | own b =>
    cases q : h b with
    | none => simp only [ownO, q]
    | some m => cases m <;> first | (simp only [ownO, q]; done) | (simp only [asL, q] at e; cases e)
theorem ownO_asQ {h : MH} {x : SV} {xs : List PyData} (e : asQ h x = some xs) : ownO h x = none := by
  cases x with
  | d _ => rfl
  | own b =>
    unfold asQ at e
    cases q : asL h (.own b) with
    | some ys => exact ownO_asL q
    | none => rw [q] at e; cases e
def keyP : PyData → Option Key
  | .int i => some (.inl i)
  | .str z => some (.inr z)
  | _ => none
def asKey : SV → Option Key
  | .d d => keyP d
  | .own _ => none
def valS {κ : Type} [DecidableEq κ] (ps : List (κ × SV)) (k : κ) : Option SV := (ps.find? fun kv => decide (kv.1 = k)).map (·.2)
def putS {κ : Type} [DecidableEq κ] (ps : List (κ × SV)) (k : κ) (v : SV) : List (κ × SV) :=
  if (ps.any fun kv => decide (kv.1 = k)) = true then ps.map (fun kv => if kv.1 = k then (kv.1, v) else kv) else ps ++ [(k, v)]
theorem asKey_ok {K : PySem.W.Frag} {Γ : GI} {H : Hp} {h : MH} {x : SV} {v : V} {k : Key} (r : RV K Γ H h x v) (e : asKey x = some k) : v = kV k := by
  cases x with
  | own _ => cases e
  | d d =>
    cases d with
    | int i => cases e; cases r; rfl
    | str z => cases e; cases r; rfl
    | _ => cases e
theorem valS_ok {κ : Type} [DecidableEq κ] {K : PySem.W.Frag} {F : Hp} {k : κ} : ∀ {ps : List (κ × SV)} {kvs : List (κ × V)}, Paired (RPF K F) ps kvs → (∀ z, valS ps k = some z → ∃ v, valV kvs k = some v ∧ RVF K F z v) ∧ (valS ps k = none → valV kvs k = none)
  | _, _, .nil => ⟨fun z e => (by cases e), fun _ => rfl⟩
  | (x, y) :: ps, (x', v) :: kvs, .cons h t => by
    obtain ⟨e1, e2⟩ := h
    have e1' : x = x' := e1
    subst e1'
    by_cases q : x = k
    · have a : valS ((x, y) :: ps) k = some y := by simp [valS, List.find?_cons, q]
      rw [a, valV_pos (p := (x, v)) q]
      exact ⟨fun z e => (by cases e; exact ⟨v, rfl, e2⟩), fun e => (by cases e)⟩
    · have a : valS ((x, y) :: ps) k = valS ps k := by simp [valS, List.find?_cons, q]
      rw [a, valV_neg (p := (x, v)) q]
      exact valS_ok t
theorem anyS_ok {κ : Type} [DecidableEq κ] {K : PySem.W.Frag} {F : Hp} {k : κ} : ∀ {ps : List (κ × SV)} {kvs : List (κ × V)}, Paired (RPF K F) ps kvs → (ps.any fun kv => decide (kv.1 = k)) = (kvs.any fun kv => decide (kv.1 = k))
  | _, _, .nil => rfl
  | _ :: _, _ :: _, .cons h t => by rw [List.any_cons, List.any_cons, anyS_ok t, h.1]
theorem pairs_len {α β : Type} {R : α → β → Prop} : ∀ {l : List α} {m : List β}, Paired R l m → l.length = m.length
  | _, _, .nil => rfl
  | _, _, .cons _ t => by simp [pairs_len t]
theorem pairs_snoc {α β : Type} {R : α → β → Prop} {a : α} {b : β} (r : R a b) : ∀ {l : List α} {m : List β}, Paired R l m → Paired R (l ++ [a]) (m ++ [b])
  | _, _, .nil => .cons r .nil
  | _, _, .cons h t => .cons h (pairs_snoc r t)
theorem putS_ok {κ : Type} [DecidableEq κ] {K : PySem.W.Frag} {F : Hp} {k : κ} {z : SV} {v : V} {ps : List (κ × SV)} {kvs : List (κ × V)} (r : Paired (RPF K F) ps kvs) (rz : RVF K F z v) : Paired (RPF K F) (putS ps k z) (putK kvs k v) := by
  unfold putS putK
  rw [anyS_ok r]
  split
  · rename_i hany
    clear hany
    induction r with
    | nil => exact .nil
    | @cons p q ps kvs h t ih =>
      refine .cons ?_ ih
      show RPF K F (if p.1 = k then (p.1, z) else p) (if q.1 = k then (q.1, v) else q)
      by_cases e : p.1 = k
      · rw [if_pos e, if_pos (h.1 ▸ e)]; exact ⟨h.1, rz⟩
      · rw [if_neg e, if_neg (h.1 ▸ e)]; exact h
  · exact pairs_snoc ⟨rfl, rz⟩ r
theorem pairs_get {α β : Type} {R : α → β → Prop} : ∀ {l : List α} {m : List β} {i : Nat} {a : α}, Paired R l m → l[i]? = some a → ∃ b, m[i]? = some b ∧ R a b
  | _, _, _, _, .nil, e => by simp at e
  | _, _, 0, _, .cons h _, e => by simp at e; subst e; exact ⟨_, rfl, h⟩
  | _, _, i + 1, a, .cons _ t, e => by
    obtain ⟨b, e1, e2⟩ := pairs_get (i := i) (a := a) t (by simpa using e)
    exact ⟨b, by simpa using e1, e2⟩
theorem pairs_at {α β : Type} {R : α → β → Prop} {l : List α} {m : List β} {i : Int} {a : α} (r : Paired R l m) (e : atI l i = some a) : ∃ b, atI m i = some b ∧ R a b := by
  unfold atI at e ⊢
  rw [← pairs_len r]
  cases q : ixN l.length i with
  | none => rw [q] at e; cases e
  | some j =>
    rw [q] at e
    exact pairs_get r e
/-- what a subscript finds in what is one's own -/
def ixO (o : MO) (y : SV) : Option SV := match o with
  | .seq xs => match asInt y with
    | some i => atI xs i
    | none => none
  | .tpl xs => match asInt y with
    | some i => atI xs i
    | none => none
  | .dct ps => match asKey y with
    | some k => valS ps k
    | none => none
  | .dcl _ _ ps => match asKey y with
    | some k => valS ps k
    | none => none
  | _ => none

def inO (o : MO) (x : SV) : Option Bool := match o with
  | .dct ps => match asKey x with
    | some k => some (valS ps k).isSome
    | none => none
  | _ => none
def rdNotInL : DR2 := fun x y h Q => match ownO h y with
  | some p => match inO p.2 x with
    | some b => Q (.d (.bool (!b))) h
    | none => False
  | none => match asD h x, asL h y with
    | some d, some ds => SeqAt.shaped d = true ∧ SeqAt.shaped (.list ds) = true ∧ Q (.d (.bool (!ds.any fun z => PyData.eqv z d))) h
    | _, _ => False
theorem asL_D {h : MH} {y : SV} {ds : List PyData} (e : asL h y = some ds) : asD h y = some (.list ds) := by
  cases y with
  | own a =>
    cases q : h a with
    | none => simp only [asL, q] at e; cases e
    | some m => cases m with
      | lst xs => simp only [asL, q] at e; cases e; simp only [asD, q]
      | _ => simp only [asL, q] at e; cases e
  | d y => cases y with
    | list xs => cases e; rfl
    | _ => cases e
def rNotInDc : R2 := fun x y H Q => ∃ a o, y = .ref a ∧ DGet H a x o ∧ Q (.bl (!o.isSome)) H
def rNotInG (K : PySem.W.Frag) : R2 := fun x y H Q => rNotInD K x y H Q ∨ rNotInDc x y H Q
theorem op_notInDc {X : Cx} (hu : X.A.units + 1 < cLine) : OpR X (compareOp .NotIn) rNotInDc := by
  intro pins s σ H x y v u Q I rx ry ⟨a, o, e, g, q⟩
  subst e
  obtain rfl : u = Value.ref a := ry
  exact d_notIn hu I g rx fun s3 I3 => ⟨.bl (!o.isSome), H, I3, rfl, q⟩
theorem op_notInG {X : Cx} (hu : X.A.units + 65 < cLine) : OpR X (compareOp .NotIn) (rNotInG X.K) := OpR.or (op_notInD hu) (op_notInDc (by omega))
theorem inO_ok {K : PySem.W.Frag} {Γ : GI} {H : Hp} {h : MH} {x y : SV} {u v : V} {p : Addr × MO} {b : Bool} (rm : RM K Γ H h) (rx : RV K Γ H h x u) (ry : RV K Γ H h y v) (e : ownO h y = some p) (e2 : inO p.2 x = some b) :
    ∃ o : Option V, v = .ref p.1 ∧ DGet H p.1 u o ∧ o.isSome = b := by
  obtain ⟨ex, ea⟩ := ownO_ok e
  subst ex
  have ev : v = .ref p.1 := ry
  obtain ⟨u0, f1, f2⟩ := ro_at (rm.ob _ _ ea)
  unfold inO at e2
  split at e2
  · rename_i ps hq
    rw [hq] at f2
    split at e2
    · rename_i k e3
      cases e2
      cases u0 <;> first | exact f2.elim | skip
      rename_i kvs
      refine ⟨valV kvs k, ev, ?_, ?_⟩
      · rw [asKey_ok rx e3]; exact DGet.k f1
      · cases q : valS ps k with
        | none => rw [(valS_ok f2).2 q]; rfl
        | some z =>
          obtain ⟨w, g1, _⟩ := (valS_ok f2).1 z q
          rw [g1]; rfl
    · cases e2
  · cases e2
theorem lr_notInL : LR2 K Γ rdNotInL (rNotInG K) := by
  refine ⟨fun x y h Q Q' k w => ?_, fun x y v u H h C' Q rv ru rm w k => ?_⟩
  · unfold rdNotInL at w ⊢
    split at w
    · split at w
      · exact k _ _ w
      · exact w
    · split at w
      · exact ⟨w.1, w.2.1, k _ _ w.2.2⟩
      · exact w
  · unfold rdNotInL at w
    split at w
    · rename_i p e0
      split at w
      · rename_i b e1
        obtain ⟨o, e2, g, e3⟩ := inO_ok rm rv ru e0 e1
        exact .inr ⟨_, o, e2, g, by rw [e3]; exact k _ _ _ H PX.refl rv_bl rm w⟩
      · exact w.elim
    · split at w
      · rename_i d e e1 e2
        exact .inl ⟨d, e, asD_ok rv rm e1, asD_ok ru rm (asL_D e2), w.1, w.2.1, k _ _ _ H PX.refl rv_bl rm w.2.2⟩
      · exact w.elim
end

def rdIx : DR2 := fun x y h Q => match ownO h x with
  | some p => match ixO p.2 y with
    | some z => Q z h
    | none => False
  | none => match asInt y with
  | some i => match asStr x with
    | some z => match atI z.cps.toList i with
      | some c => z.length ≤ sizeLine ∧ Q (.d (.str ⟨#[c]⟩)) h
      | none => False
    | none => match asQ h x with
      | some xs => match atI xs i with
        | some d => Q (.d d) h
        | none => False
      | none => False
  | none => False
def rIxDc : R2 := fun x y H Q => ∃ a v, x = .ref a ∧ DGet H a y (some v) ∧ Q v H
theorem ix_dct {X : Cx} (hu : X.A.units + 1 < cLine) : IxR X rIxDc := by
  intro value slice pins s σ H x y v u Q I rx ry h hs
  obtain ⟨a, z, rfl, g, q⟩ := h
  obtain rfl : v = Value.ref a := rx
  exact tail_any (dict_typeIs I g) slot_dict_getitem.lookup (d_getItem hu I g ry fun w' s3 I3 rw' => ⟨z, H, I3, rw', q⟩) hs
def rIxG (K : PySem.W.Frag) : R2 := fun x y H Q => rIx K x y H Q ∨ rIxDc x y H Q
theorem ix_G {X : Cx} (hu : X.A.units + 1 < cLine) : IxR X (rIxG X.K) := ix_seq.or (ix_dct hu)
theorem dps_at {K : PySem.W.Frag} {H : Hp} {ds : List PyData} {vs : List V} {i : Int} {d : PyData} (r : DpAll K H vs ds) (e : atI ds i = some d) : ∃ v, atI vs i = some v ∧ Dp K H v d := by
  unfold atI at e ⊢
  rw [dps_len r]
  cases q : ixN ds.length i with
  | none => rw [q] at e; cases e
  | some j =>
    rw [q] at e
    exact dps_get r e
theorem lr_ix {K : PySem.W.Frag} : LR2 K Γ rdIx (rIxG K) := by
  refine ⟨fun x y h Q Q' k w => ?_, fun x y v u H h C' Q rv ru rm w k => ?_⟩
  · unfold rdIx at w ⊢
    split at w
    · split at w
      · exact k _ _ w
      · exact w
    · split at w
      · split at w
        · split at w
          · exact ⟨w.1, k _ _ w.2⟩
          · exact w
        · split at w
          · split at w
            · exact k _ _ w
            · exact w
          · exact w
      · exact w
  · unfold rdIx at w
    split at w
    · rename_i p e0
      split at w
      · rename_i z e1
        obtain ⟨ex, ea⟩ := ownO_ok e0
        subst ex
        have ev : v = .ref p.1 := rv
        subst ev
        obtain ⟨u0, f1, f2⟩ := ro_at (rm.ob _ _ ea)
        have fin : ∀ w', RVF K (Fz Γ H h) z w' → Q w' H := fun w' rz => k z h w' H PX.refl (by cases z <;> exact rz) rm w
        unfold ixO at e1
        split at e1
        · rename_i xs hq
          rw [hq] at f2
          split at e1
          · rename_i i e2
            cases u0 <;> first | exact f2.elim | skip
            obtain ⟨w', g1, g2⟩ := pairs_at f2 e1
            exact .inl (.inl ⟨_, _, i, w', rfl, asInt_ok ru e2, SqL.of f1, g1, fin _ g2⟩)
          · cases e1
        · rename_i xs hq
          rw [hq] at f2
          split at e1
          · rename_i i e2
            cases u0 <;> first | exact f2.elim | skip
            obtain ⟨w', g1, g2⟩ := pairs_at f2 e1
            exact .inl (.inr (.inl ⟨_, _, i, w', rfl, asInt_ok ru e2, SqT.of f1, g1, fin _ g2⟩))
          · cases e1
        · rename_i ps hq
          rw [hq] at f2
          split at e1
          · rename_i i e2
            cases u0 <;> first | exact f2.elim | skip
            obtain ⟨w', g1, g2⟩ := (valS_ok f2).1 _ e1
            refine .inr ⟨_, w', rfl, ?_, fin _ g2⟩
            rw [asKey_ok ru e2, ← g1]
            exact DGet.k f1
          · cases e1
        · rename_i o0 kv0 ps hq
          rw [hq] at f2
          split at e1
          · rename_i i e2
            cases u0 <;> first | exact f2.elim | skip
            obtain ⟨z1, rfl, z2⟩ := f2
            obtain ⟨w', g1, g2⟩ := (valS_ok z2).1 _ e1
            refine .inr ⟨_, w', rfl, ?_, fin _ g2⟩
            rw [asKey_ok ru e2, ← g1]
            exact .inl ⟨kv0, i, .inr ⟨_, f1⟩, rfl, rfl⟩
          · cases e1
        · cases e1
      · exact w.elim
    · split at w
      · rename_i i e2
        have eu := asInt_ok ru e2
        split at w
        · rename_i z e1
          split at w
          · rename_i c e3
            exact .inl (.inr (.inr ⟨z, i, c, asStr_ok rv e1, eu, w.1, e3, k _ _ _ H PX.refl rv_str rm w.2⟩))
          · exact w.elim
        · split at w
          · rename_i xs e1
            split at w
            · rename_i d e3
              obtain ⟨a, vs, rfl, s1, d1⟩ := asQ_ok rv rm e1
              obtain ⟨u', e4, rd⟩ := dps_at d1 e3
              rcases s1 with s1 | s1
              · exact .inl (.inl ⟨a, vs, i, u', rfl, eu, s1, e4, k (.d d) _ _ H PX.refl rd rm w⟩)
              · exact .inl (.inr (.inl ⟨a, vs, i, u', rfl, eu, s1, e4, k (.d d) _ _ H PX.refl rd rm w⟩))
            · exact w.elim
          · exact w.elim
      · exact w.elim
section
variable {X : Cx} {a b c e : Expr} {pos p2 : Pos} {ta tb tc te : DTE} {t : DTA} {es : List Expr}
theorem de_ix (hu : X.A.units + 1 < cLine) (ha : DE X Γ a ta) (hb : DE X Γ b tb) (hs : PlainIx b := by exact fun _ _ => rfl) : DE X Γ (.Subscript a b pos) (dOp rdIx ta tb) :=
  ⟨mono_op (lr_ix (K := X.K) (Γ := Γ)).mono ha.mono hb.mono, pe_imp (pe_ix (ix_G hu) ha.pe hb.pe hs) (op_lift lr_ix ha.mono hb.mono)⟩

abbrev DTO := DSt → MH → (Option Int → MH → Prop) → Prop
structure DO (X : Cx) (Γ : GI) (e : Option Expr) (t : DTO) : Prop where
  mono : Mono t
  po : PO X e (lift X.K Γ (fun _ _ a b => a = b) t)
def dNoPart : DTO := fun _ h Q => Q none h
def dPart (t : DTE) : DTO := fun σ h Q => t σ h fun x h1 => match asInt x with
  | some i => Q (some i) h1
  | none => False
theorem po_imp {e : Option Expr} {t t' : TO} (p : PO X e t) (k : ∀ σ H Q, t' σ H Q → t σ H Q) : PO X e t' := by
  cases p with
  | mk r => exact ⟨fun pins s σ H Q I w => r pins s σ H Q I (k σ H Q w)⟩
theorem do_none : DO X Γ none dNoPart := ⟨fun _ _ _ _ k w => k _ _ w, po_imp po_none fun σ H Q ⟨σd, h, rs, rm, w⟩ => w _ H PX.refl rfl rm⟩
theorem do_some (ha : DE X Γ e te) : DO X Γ (some e) (dPart te) :=
  ⟨fun σ h Q Q' k w => ha.mono _ _ _ _ (fun x h1 w1 => by
    cases q : asInt x with
    | none => rw [q] at w1; exact w1
    | some i => rw [q] at w1; exact k _ _ w1) w,
  po_imp (po_some ha.pe) fun σ H Q ⟨σd, h, rs, rm, w⟩ => lift_mk ha.mono rs rm w fun x h1 v H1 px rs1 rv rm1 w1 => by
    cases q : asInt x with
    | none => rw [q] at w1; exact w1.elim
    | some i =>
      rw [q] at w1
      exact ⟨i, asInt_ok rv q, w1 _ H1 px rfl rm1⟩⟩
abbrev cutD (xs : List PyData) (lo hi : Option Int) : List PyData := (xs.drop (HT.sIx xs.length 0 lo)).take (HT.sIx xs.length xs.length hi - HT.sIx xs.length 0 lo)
theorem dps_cut {K : PySem.W.Frag} {H : Hp} {ds : List PyData} {vs : List V} {lo hi : Option Int} (r : DpAll K H vs ds) : DpAll K H (cutV vs lo hi) (cutD ds lo hi) := by
  unfold cutV cutD
  rw [dps_len r]
  exact dps_take _ (dps_drop _ r)
def rdSl (x : SV) (lo hi : Option Int) (h : MH) (Q : DK) : Prop := match asStr x with
  | some z => z.length ≤ sizeLine ∧ Q (.d (.str (cutS z lo hi))) h
  | none => match asT x with
    | some xs => Q (.d (.tuple (cutD xs lo hi))) h
    | none => match asL h x with
      | some xs => Q (.d (.list (cutD xs lo hi))) h
      | none => False
end
end DL

namespace DL
open PySem PySem.Spec PyProof.Rows L2
set_option autoImplicit true

def rSlAll (K : PySem.W.Frag) : V → Option Int → Option Int → Hp → VK → Prop := fun x lo hi H Q => rSlS x lo hi H Q ∨ (rSlA K x lo hi H Q ∨ rSlL K x lo hi H Q)
theorem sl_all {X : Cx} : SlR X (rSlAll X.K) := sl_str.or (sl_tupA.or sl_list)
theorem cut_whole {α : Type} (xs : List α) {lo hi : Option Int} (h : HT.sIx xs.length 0 lo = 0 ∧ HT.sIx xs.length xs.length hi = xs.length) : (xs.drop (HT.sIx xs.length 0 lo)).take (HT.sIx xs.length xs.length hi - HT.sIx xs.length 0 lo) = xs := by
  rw [h.1, h.2, List.drop_zero, Nat.sub_zero, List.take_length]
def dSl (te : DTE) (tl th : DTO) : DTE := fun σ h Q => te σ h fun x h1 => tl σ h1 fun lo h2 => th σ h2 fun hi h3 => rdSl x lo hi h3 Q
section
variable {X : Cx} {a b c e : Expr} {pos p2 : Pos} {ta tb tc te : DTE} {t : DTA} {es : List Expr} {tl th : DTO} {lo hi : Option Expr}
theorem rdSl_mono {x : SV} {lo hi : Option Int} {h : MH} {Q Q' : DK} (k : ∀ z h', Q z h' → Q' z h') (w : rdSl x lo hi h Q) : rdSl x lo hi h Q' := by
  unfold rdSl at w ⊢
  split at w
  · exact ⟨w.1, k _ _ w.2⟩
  · split at w
    · exact k _ _ w
    · split at w
      · exact k _ _ w
      · exact w
theorem mono_sl (me : Mono te) (ml : Mono tl) (mh : Mono th) : Mono (dSl te tl th) := fun σ h Q Q' k w => me _ _ _ _ (fun x h1 w1 => ml _ _ _ _ (fun l h2 w2 => mh _ _ _ _ (fun u h3 w3 => rdSl_mono k w3) w2) w1) w
theorem sl_run {K : PySem.W.Frag} {x : SV} {v : V} {lo hi : Option Int} {H : Hp} {h : MH} {C : DK} {Q : VK} (rv : RV K Γ H h x v) (rm : RM K Γ H h) (w : rdSl x lo hi h C) (k : ∀ z h' w H', PX Γ H h H' h' → RV K Γ H' h' z w → RM K Γ H' h' → C z h' → Q w H') : rSlAll K v lo hi H Q := by
  unfold rdSl at w
  split at w
  · rename_i z e1
    exact .inl ⟨z, asStr_ok rv e1, w.1, k _ _ _ H PX.refl rv_str rm w.2⟩
  · split at w
    · rename_i xs e1
      obtain ⟨a, vs, rfl, s1, d1⟩ := asT_ok rv e1
      refine .inr (.inl ⟨a, vs, rfl, s1, fun hw => ?_, fun _ p hp => ?_⟩)
      · have e3 : cutD xs lo hi = xs := cut_whole xs (by rw [dps_len d1] at hw; exact hw)
        rw [e3] at w
        cases x with
        | own _ => cases e1
        | d x => cases x with
          | tuple ys => cases e1; exact k _ _ _ H PX.refl rv rm w
          | _ => cases e1
      · obtain ⟨p1, r1, v1⟩ := new_tup hp rm (dps_cut (lo := lo) (hi := hi) d1)
        exact k _ _ _ _ p1 v1 r1 w
    · split at w
      · rename_i xs e1
        obtain ⟨a, vs, rfl, s1, d1⟩ := asL_ok rv rm e1
        refine .inr (.inr ⟨a, vs, rfl, s1, fun p hp => ?_⟩)
        obtain ⟨p1, r1, v1⟩ := new_list hp rm (dps_cut (lo := lo) (hi := hi) d1)
        exact k _ _ _ _ p1 v1 r1 w
      · exact w.elim
theorem de_sl (he : DE X Γ e te) (hl : DO X Γ lo tl) (hh : DO X Γ hi th) : DE X Γ (.Subscript e (.Slice lo hi none p2) pos) (dSl te tl th) :=
  ⟨mono_sl he.mono hl.mono hh.mono, pe_imp (pe_slice sl_all he.pe hl.po hh.po) fun σ H Q ⟨σd, h, rs, rm, w⟩ =>
    lift_mk he.mono rs rm w fun x h1 v H1 px rs1 rv rm1 w1 => lift_mk hl.mono rs1 rm1 w1 fun l h2 l' H2 px2 rs2 el rm2 w2 => lift_mk hh.mono rs2 rm2 w2 fun u h3 u' H3 px3 rs3 eu rm3 w3 => by
      subst el eu
      exact sl_run ((rv.up px2).up px3) rm3 w3 fun z h' w' H' px' rz rm' q => q _ _ (((px.trans px2).trans px3).trans px') rz rm'⟩
/-- + of lists, * of a list, fresh -/
def fAdd (ta tb : DTE) : DTF := fun σ h Q => ta σ h fun x h1 => tb σ h1 fun y h2 => match asL h2 x, asL h2 y with
  | some a, some b => a.length + b.length ≤ sizeLine ∧ Q (a ++ b) h2
  | _, _ => False
def dNeg (ta : DTE) : DTE := fun σ h Q => ta σ h fun x h1 => match asInt x with
  | some i => Q (.d (.int (-i))) h1
  | none => False
theorem de_neg (ha : DE X Γ a ta) : DE X Γ (.UnaryOp .USub a pos) (dNeg ta) :=
  ⟨fun σ h Q Q' k w => ha.mono _ _ _ _ (fun x h1 w1 => by
    split at w1
    · exact k _ _ w1
    · exact w1) w, pe_imp (pe_un un_neg ha.pe) fun σ H Q ⟨σd, h, rs, rm, w⟩ => lift_mk ha.mono rs rm w fun x h1 v H1 px rs1 rv rm1 w1 => by
      split at w1
      · rename_i i e1
        exact ⟨i, asInt_ok rv e1, w1 _ _ px rv_int rm1⟩
      · exact w1.elim⟩
end

section
variable {K : PySem.W.Frag}
theorem rvs1 {H : Hp} {h : MH} {x : SV} {vs : List V} (r : RVs K Γ H h [x] vs) : ∃ v, vs = [v] ∧ RV K Γ H h x v := by
  cases r with
  | cons r t => cases t; exact ⟨_, rfl, r⟩
/-- len -/
def lenO : MO → Option Nat
  | .lst xs => some xs.length
  | .seq xs => some xs.length
  | .tpl xs => some xs.length
  | .dct ps => some ps.length
  | _ => none
def rdLen : DRA := fun xs h Q => match xs with
  | [x] => match ownO h x with
    | some p => match lenO p.2 with
      | some n => Q (.d (.int (n : Nat))) h
      | none => False
    | none => match asStr x with
      | some z => z.length ≤ sizeLine ∧ Q (.d (.int z.length)) h
      | none => match asQ h x with
        | some ds => Q (.d (.int ds.length)) h
        | none => False
  | _ => False
def rLenAll (K : PySem.W.Frag) : List V → Hp → VK → Prop := fun xs H Q => ((∃ p ys, xs = [.ref p] ∧ (SqL K H p ys ∨ SqT K H p ys) ∧ Q (.int ys.length) H) ∨ (∃ z, xs = [.str z] ∧ z.length ≤ sizeLine ∧ Q (.int z.length) H)) ∨ (∃ a kvs, xs = [V.ref a] ∧ H a = some (.dK kvs) ∧ Q (.int kvs.length) H)
theorem cr_len {X : Cx} : CallR X (.builtin "len") (rLenAll X.K) := (call_len_seq.or call_len_str).or call_lenD
theorem la_len : LRA K Γ rdLen (rLenAll K) := by
  refine ⟨fun xs h Q Q' k w => ?_, fun xs vs H h C Q r rm w k => ?_⟩
  · unfold rdLen at w ⊢
    split at w
    · split at w
      · split at w
        · exact k _ _ w
        · exact w
      · split at w
        · exact ⟨w.1, k _ _ w.2⟩
        · split at w
          · exact k _ _ w
          · exact w
    · exact w
  · unfold rdLen at w
    split at w
    · obtain ⟨v, rfl, rv⟩ := rvs1 r
      split at w
      · rename_i p e0
        obtain ⟨a, o⟩ := p
        obtain ⟨ex, ea⟩ := ownO_ok e0
        subst ex
        have ev : v = .ref a := rv
        subst ev
        obtain ⟨u0, f1, f2⟩ := ro_at (rm.ob _ _ ea)
        cases o <;> cases u0 <;> first | exact f2.elim | exact w.elim | skip
        · exact .inl (.inl ⟨a, _, rfl, .inl (SqL.of f1), k _ _ _ H PX.refl rv_int rm (by rw [dps_len f2]; exact w)⟩)
        · exact .inl (.inl ⟨a, _, rfl, .inl (SqL.of f1), k _ _ _ H PX.refl rv_int rm (by rw [← pairs_len f2]; exact w)⟩)
        · exact .inl (.inl ⟨a, _, rfl, .inr (SqT.of f1), k _ _ _ H PX.refl rv_int rm (by rw [← pairs_len f2]; exact w)⟩)
        · exact .inr ⟨a, _, rfl, f1, k _ _ _ H PX.refl rv_int rm (by rw [← pairs_len f2]; exact w)⟩
      · split at w
        · rename_i z e1
          exact .inl (.inr ⟨z, by rw [asStr_ok rv e1], w.1, k _ _ _ H PX.refl rv_int rm w.2⟩)
        · split at w
          · rename_i ds e1
            obtain ⟨a, vs, rfl, s1, d1⟩ := asQ_ok rv rm e1
            exact .inl (.inl ⟨a, vs, rfl, s1, by rw [dps_len d1]; exact k _ _ _ H PX.refl rv_int rm w⟩)
          · exact w.elim
    · exact w.elim
/-- list(x) -/
def rfList : DRF := fun xs h Q => match xs with
  | [x] => match asQ h x with
    | some ds => Q ds h
    | none => False
  | _ => False
theorem lf_list : LRF K Γ rfList (fun xs H Q => ∃ p ys, xs = [.ref p] ∧ (SqL K H p ys ∨ SqT K H p ys) ∧ ∀ l, H l = none → Q (.ref l) (upd H l (.lst ys))) := by
  refine ⟨fun xs h Q Q' k w => ?_, fun xs vs H h C Q r rm w k => ?_⟩
  · unfold rfList at w ⊢
    split at w
    · split at w
      · exact k _ _ w
      · exact w
    · exact w
  · unfold rfList at w
    split at w
    · obtain ⟨v, rfl, rv⟩ := rvs1 r
      split at w
      · rename_i ds e1
        obtain ⟨a, vs, rfl, s1, d1⟩ := asQ_ok rv rm e1
        exact ⟨a, vs, rfl, s1, fun l hl => k _ _ _ H l PX.refl d1 rm w hl⟩
      · exact w.elim
    · exact w.elim
/-- tuple(x) -/
def rdTuple : DRA := fun xs h Q => match xs with
  | [x] => match asQ h x with
    | some ds => Q (.d (.tuple ds)) h
    | none => False
  | _ => False
theorem la_tuple : LRA K Γ rdTuple (fun xs H Q => ∃ p ys, xs = [.ref p] ∧ ((SqL K H p ys ∧ ∀ l, H l = none → Q (.ref l) (upd H l (.tup ys))) ∨ (SqT K H p ys ∧ Q (.ref p) H))) := by
  refine ⟨fun xs h Q Q' k w => ?_, fun xs vs H h C Q r rm w k => ?_⟩
  · unfold rdTuple at w ⊢
    split at w
    · split at w
      · exact k _ _ w
      · exact w
    · exact w
  · unfold rdTuple at w
    split at w
    · rename_i x
      obtain ⟨v, rfl, rv⟩ := rvs1 r
      split at w
      · rename_i ds e1
        unfold asQ at e1
        split at e1
        · rename_i ds' e2
          cases e1
          obtain ⟨a, vs, rfl, s1, d1⟩ := asL_ok rv rm e2
          refine ⟨a, vs, rfl, .inl ⟨s1, fun l hl => ?_⟩⟩
          obtain ⟨p1, r1, v1⟩ := new_tup hl rm d1
          exact k _ _ _ _ p1 v1 r1 w
        · obtain ⟨a, vs, rfl, s1, d1⟩ := asT_ok rv e1
          refine ⟨a, vs, rfl, .inr ⟨s1, ?_⟩⟩
          cases x with
          | own _ => cases e1
          | d x => cases x with
            | tuple ys => cases e1; exact k _ _ _ H PX.refl rv rm w
            | _ => cases e1
      · exact w.elim
    · exact w.elim
/-- int(b), int(n) -/
def rdInt : DRA := fun xs h Q => match xs with
  | [x] => match asInt x with
    | some i => Q (.d (.int i)) h
    | none => match asBool x with
      | some b => Q (.d (.int (if b then 1 else 0))) h
      | none => False
  | _ => False
theorem la_int : LRA K Γ rdInt (fun xs H Q => (∃ i, xs = [.int i] ∧ Q (.int i) H) ∨ ∃ k, xs = [.bl k] ∧ Q (.int (if k then 1 else 0)) H) := by
  refine ⟨fun xs h Q Q' k w => ?_, fun xs vs H h C Q r rm w k => ?_⟩
  · unfold rdInt at w ⊢
    split at w
    · split at w
      · exact k _ _ w
      · split at w
        · exact k _ _ w
        · exact w
    · exact w
  · unfold rdInt at w
    split at w
    · obtain ⟨v, rfl, rv⟩ := rvs1 r
      split at w
      · rename_i i e1
        exact .inl ⟨i, by rw [asInt_ok rv e1], k _ _ _ H PX.refl rv_int rm w⟩
      · split at w
        · rename_i b e1
          exact .inr ⟨b, by rw [asBool_ok rv e1], k _ _ _ H PX.refl rv_int rm w⟩
        · exact w.elim
    · exact w.elim
/-- all, any of a list of truths -/
def bools : List PyData → Option (List Bool)
  | [] => some []
  | .bool b :: r => match bools r with
    | some bs => some (b :: bs)
    | none => none
  | _ :: _ => none
theorem bools_ok {H : Hp} : ∀ {ds : List PyData} {vs : List V} {bs : List Bool}, DpAll K H vs ds → bools ds = some bs → vs = bs.map V.bl
  | [], _, _, h, e => by cases h; cases e; rfl
  | d :: r, _, bs, h, e => by
    cases h with
    | cons h1 h2 =>
      cases d with
      | bool b =>
        unfold bools at e
        split at e
        · rename_i bs' e'
          cases e
          cases h1
          rw [bools_ok h2 e']
          rfl
        · cases e
      | _ => cases e
def rdQ (f : List Bool → Bool) : DRA := fun xs h Q => match xs with
  | [x] => match asL h x with
    | some ds => match bools ds with
      | some bs => Q (.d (.bool (f bs))) h
      | none => False
    | none => False
  | _ => False
theorem la_q {f : List Bool → Bool} : LRA K Γ (rdQ f) (fun vs H Q => ∃ (a : Addr) (bs : List Bool), vs = [V.ref a] ∧ SqL K H a (bs.map V.bl) ∧ Q (.bl (f bs)) H) := by
  refine ⟨fun xs h Q Q' k w => ?_, fun xs vs H h C Q r rm w k => ?_⟩
  · unfold rdQ at w ⊢
    split at w
    · split at w
      · split at w
        · exact k _ _ w
        · exact w
      · exact w
    · exact w
  · unfold rdQ at w
    split at w
    · obtain ⟨v, rfl, rv⟩ := rvs1 r
      split at w
      · rename_i ds e1
        split at w
        · rename_i bs e2
          obtain ⟨a, vs, rfl, s1, d1⟩ := asL_ok rv rm e1
          rw [bools_ok d1 e2] at s1
          exact ⟨a, bs, rfl, s1, k _ _ _ H PX.refl rv_bl rm w⟩
        · exact w.elim
      · exact w.elim
    · exact w.elim
abbrev rdAll : DRA := rdQ fun bs => bs.all id
theorem la_all : LRA K Γ rdAll (rAll K) := la_q
end

section
variable {X : Cx} {a b c e : Expr} {pos p2 : Pos} {ta tb tc te : DTE} {t : DTA} {es : List Expr}
def rgD (a b : Int) : List PyData := (List.range (b - a).toNat).map fun i => PyData.int (a + (i : Nat))
theorem dps_rg {K : PySem.W.Frag} {H : Hp} (a b : Int) : DpAll K H (rgV a b) (rgD a b) := by
  have z : ∀ (l : List Nat), DpAll K H (l.map fun i => V.int (a + (i : Nat))) (l.map fun i => PyData.int (a + (i : Nat))) := fun l => by
    induction l with
    | nil => exact .nil
    | cons i l ih => exact .cons (.int _) ih
  exact z _
def fLstRg1 (ta : DTE) : DTF := fun σ h Q => ta σ h fun x h1 => match asInt x with
  | some n => n ≤ 16777216 ∧ -16777216 ≤ n ∧ Q (rgD 0 n) h1
  | none => False
def fLstRg2 (ta tb : DTE) : DTF := fun σ h Q => ta σ h fun x h1 => tb σ h1 fun y h2 => match asInt x, asInt y with
  | some n, some m => (0 ≤ n ∧ n ≤ 16777216 ∧ -16777216 ≤ m ∧ m ≤ 16777216) ∧ Q (rgD n m) h2
  | _, _ => False
theorem rgOk_of {a b : Int} (h0 : 0 ≤ a) (h1 : a ≤ 16777216) (h2 : -16777216 ≤ b) (h3 : b ≤ 16777216) : RgOk a b := ⟨by omega, by omega, by omega, by omega, by omega⟩
theorem df_lstRg1 {p p3 pos3 : Pos} (hc : X.calm = true) (hg : Gl X "list") (hm : X.mg "list" = none) (hg2 : Gl X "range") (hm2 : X.mg "range" = none) (ha : DE X Γ a ta)
    (na : starEach [a] X.env = (false, eval a X.env) :: starEach [] X.env := by rfl) (na2 : starEach [Expr.Call (.Name "range" p3) [a] [] pos3] X.env = (false, eval (Expr.Call (.Name "range" p3) [a] [] pos3) X.env) :: starEach [] X.env := by rfl) :
    DF X Γ (.Call (.Name "list" p) [.Call (.Name "range" p3) [a] [] pos3] [] pos) (fLstRg1 ta) :=
  ⟨fun σ h Q Q' k w => ha.mono _ _ _ _ (fun x h1 w1 => by
    split at w1
    · exact ⟨w1.1, w1.2.1, k _ _ w1.2.2⟩
    · exact w1) w, pe_imp (pe_listRg hc hg hm (prg_1 hg2 hm2 ha.pe na) na2) fun σ H Q ⟨σd, h, rs, rm, w⟩ => lift_mk ha.mono rs rm w fun x h1 v H1 px rs1 rv rm1 w1 => by
      split at w1
      · rename_i n e1
        exact ⟨n, asInt_ok rv e1, rgOk_of (by omega) (by omega) w1.2.1 w1.1, fun q hq => w1.2.2 _ _ _ px (dps_rg 0 n) rm1 hq⟩
      · exact w1.elim⟩
end

abbrev DRM := SV → List SV → MH → DK → Prop
structure LRM (K : PySem.W.Frag) (Γ : GI) (r' : DRM) (r : V → List V → Hp → VK → Prop) : Prop where
  mono : ∀ x xs h (Q Q' : DK), (∀ z h', Q z h' → Q' z h') → r' x xs h Q → r' x xs h Q'
  run : ∀ x v xs vs H h (C : DK) (Q : VK), RV K Γ H h x v → RVs K Γ H h xs vs → RM K Γ H h → r' x xs h C → (∀ z h' w H', PX Γ H h H' h' → RV K Γ H' h' z w → RM K Γ H' h' → C z h' → Q w H') → r v vs H Q
def dML (r : DRM) (to : DTE) (t : DTA) : DTE := fun σ h Q => to σ h fun x h1 => match asL h1 x with
  | some _ => t σ h1 fun xs h2 => r x xs h2 Q
  | none => False
section
variable {X : Cx} {a b c e o : Expr} {pos p2 apos cpos : Pos} {ta tb tc te to : DTE} {t : DTA} {es : List Expr} {id : String} {name : Str} {r : V → List V → Hp → VK → Prop} {r' : DRM}
theorem mono_ML (mr : ∀ x xs h (Q Q' : DK), (∀ z h', Q z h' → Q' z h') → r' x xs h Q → r' x xs h Q') (mo : Mono to) (mt : Mono t) : Mono (dML r' to t) := fun σ h Q Q' k w => mo _ _ _ _ (fun x h1 w1 => by
  split at w1
  · exact mt _ _ _ _ (fun xs h2 w2 => mr _ _ _ _ _ k w2) w1
  · exact w1) w
theorem de_mL (pa : PlainAttrs "list") (slot : Slot "list" name id) (hty : typeOf (.builtin id) = pure (.type "method_descriptor")) (hm : MtR X id r) (l : LRM X.K Γ r' r) (ho : DE X Γ o to) (ha : DA X Γ (e :: es) t)
    (hbase : attributeBase o name X.env (eval o X.env) = eval o X.env := by rfl)
    (hfew : ((backTo cpos (starEach (e :: es) X.env)).all (fun x => !x.1) && (backToKw cpos (keywordEach [] X.env)).all (fun x => x.1.isSome)
      && decide ((e :: es).length + ([] : List Keyword).length + (if ([] : List Keyword).isEmpty then 0 else 1) < 30)) = true := by rfl)
    (hline : (apos.endLine == cpos.line) = true := by rfl) (hs : starEach (e :: es) X.env = (false, eval e X.env) :: starEach es X.env := by rfl) (hplain : (backTo cpos (starEach es X.env)).any (·.1) = false := by rfl) :
    DE X Γ (.Call (.Attribute o name apos) (e :: es) [] cpos) (dML r' to t) :=
  ⟨mono_ML l.mono ho.mono ha.mono, pe_imp (pe_bm pa slot hty hm ho.pe ha.pa hbase hfew hline hs hplain) fun σ H Q ⟨σd, h, rs, rm, w⟩ => lift_mk ho.mono rs rm w fun x h1 v H1 px rs1 rv rm1 w1 => by
    split at w1
    · rename_i ds e1
      obtain ⟨a, vs, rfl, s1, d1⟩ := asL_ok rv rm1 e1
      refine ⟨.inl ⟨rfl, vs, s1⟩, lift_mk ha.mono rs1 rm1 w1 fun xs h2 us H2 px2 rs2 rus rm2 w2 => ?_⟩
      exact l.run x _ xs us H2 h2 _ Q (rv.up px2) rus rm2 w2 fun z h' w' H' px' rz rm' q => q _ _ ((px.trans px2).trans px') rz rm'
    · exact w1.elim⟩
end
/-- one's own list -/
def ownL (h : MH) : SV → Option (Addr × List PyData)
  | .own a => match h a with
    | some (.lst xs) => some (a, xs)
    | _ => none
  | _ => none
theorem ownL_ok {h : MH} {x : SV} {a : Addr} {xs : List PyData} (e : ownL h x = some (a, xs)) : x = .own a ∧ h a = some (.lst xs) := by
  cases x with
  | d _ => cases e
  | own b =>
    cases q : h b with
    | none => simp only [ownL, q] at e; cases e
    | some m => cases m with
      | lst ys => simp only [ownL, q] at e; cases e; exact ⟨rfl, q⟩
      | _ => simp only [ownL, q] at e; cases e
def rdAppend : DRM := fun x xs h Q => match xs with
  | [y] => match fz1 y h with
    | some (d, h1) => match ownL h1 x with
      | some (a, ds) => ds.length < sizeLine ∧ Q (.d .none) (mput h1 a (.lst (ds ++ [d])))
      | none => False
    | none => False
  | _ => False
def rdPopAt : DRM := fun x xs h Q => match xs with
  | [y] => match asInt y with
    | some i => match ownL h x with
      | some (a, ds) => match seqIndex? i ds.length with
        | some k => match ds[k]? with
          | some d => (-(2 ^ 63) ≤ i ∧ i < 2 ^ 63) ∧ Q (.d d) (mput h a (.lst (ds.eraseIdx k)))
          | none => False
        | none => False
      | none => False
    | none => False
  | _ => False
section
variable {K : PySem.W.Frag}
theorem lm_append : LRM K Γ rdAppend rAppend := by
  refine ⟨fun x xs h Q Q' k w => ?_, fun x v xs vs H h C Q rv r rm w k => ?_⟩
  · unfold rdAppend at w ⊢
    split at w
    · split at w
      · split at w
        · exact ⟨w.1, k _ _ w.2⟩
        · exact w
      · exact w
    · exact w
  · unfold rdAppend at w
    split at w
    · obtain ⟨u, rfl, ru⟩ := rvs1 r
      split at w
      · rename_i d h1 e1
        split at w
        · rename_i a ds e2
          obtain ⟨ex, ea⟩ := ownL_ok e2
          subst ex
          obtain ⟨px, rm1, rd⟩ := fz1_ok ru rm e1
          have ev : v = .ref a := rv
          subst ev
          obtain ⟨ws, f1, f2⟩ := rm1.ob a _ ea
          refine ⟨a, ws, u, rfl, rfl, f1, by rw [dps_len f2]; exact w.1, ?_⟩
          exact k _ _ _ _ (px.trans (put_px ea rm1)) rv_non (put_rm ea rm1 (dps_app f2 (.cons rd .nil))) w.2
        · exact w.elim
      · exact w.elim
    · exact w.elim
theorem lm_popAt : LRM K Γ rdPopAt rPopAt := by
  refine ⟨fun x xs h Q Q' k w => ?_, fun x v xs vs H h C Q rv r rm w k => ?_⟩
  · unfold rdPopAt at w ⊢
    split at w
    · split at w
      · split at w
        · split at w
          · split at w
            · exact ⟨w.1, k _ _ w.2⟩
            · exact w
          · exact w
        · exact w
      · exact w
    · exact w
  · unfold rdPopAt at w
    split at w
    · obtain ⟨u, rfl, ru⟩ := rvs1 r
      split at w
      · rename_i i e1
        split at w
        · rename_i a ds e2
          split at w
          · rename_i j e3
            split at w
            · rename_i d e4
              obtain ⟨ex, ea⟩ := ownL_ok e2
              subst ex
              have ev : v = .ref a := rv
              subst ev
              obtain ⟨ws, f1, f2⟩ := rm.ob a _ ea
              obtain ⟨y, g1, g2⟩ := dps_get f2 e4
              have px : PX Γ H h (upd H a (.lst (ws.eraseIdx j))) (mput h a (.lst (ds.eraseIdx j))) := put_px ea rm
              exact ⟨a, ws, i, j, y, rfl, by rw [asInt_ok ru e1], f1, w.1.1, w.1.2, by rw [dps_len f2]; exact e3, g1,
                k _ _ _ _ px (show RV K Γ _ _ (.d d) y from dp_up px.ex _ _ g2) (put_rm ea rm (dps_erase j f2)) w.2⟩
            · exact w.elim
          · exact w.elim
        · exact w.elim
      · exact w.elim
    · exact w.elim
end
end DL

namespace DL
open PySem PySem.Spec PyProof.Rows L2
set_option autoImplicit true

theorem DF.toOwn {X : Cx} {e : Expr} {t : DTF} (f : DF X Γ e t) : DE X Γ e (fun σ h Q => t σ h fun ds h1 => ∀ p, h1 p = none → Q (.own p) (mput h1 p (.lst ds))) :=
  ⟨fun σ h Q Q' k w => f.mono _ _ _ _ (fun ds h1 w1 p hp => k _ _ (w1 p hp)) w, pe_imp f.pe fun σ H Q ⟨σd, h, rs, rm, w⟩ => ⟨σd, h, rs, rm, f.mono _ _ _ _ (fun ds h' q ws H' p px hd rm' n => by
    exact q p (rm'.tracked n) _ _ (px.trans (own_px n (rm'.tracked n) (rm'.notx n))) rfl (own_rm n rm' hd)) w⟩⟩
def dOwn (t : DTF) : DTE := fun σ h Q => t σ h fun ds h1 => ∀ p, h1 p = none → Q (.own p) (mput h1 p (.lst ds))

structure DEnds.Le (D D' : DEnds) : Prop where
  nx : ∀ σ h, D.nx σ h → D'.nx σ h
  rt : ∀ x h, D.rt x h → D'.rt x h
  bk : ∀ σ h, D.bk σ h → D'.bk σ h
  ct : ∀ σ h, D.ct σ h → D'.ct σ h
def liftE (K : PySem.W.Frag) (Γ : GI) (H0 : Hp) (h0 : MH) (D : Ends) : DEnds where
  nx := fun σd h => ∀ σ H, PX Γ H0 h0 H h → RSt K Γ H h σd σ → RM K Γ H h → D.nx σ H
  rt := fun x h => ∀ v H, PX Γ H0 h0 H h → RV K Γ H h x v → RM K Γ H h → D.rt v H
  bk := fun σd h => ∀ σ H, PX Γ H0 h0 H h → RSt K Γ H h σd σ → RM K Γ H h → D.bk σ H
  ct := fun σd h => ∀ σ H, PX Γ H0 h0 H h → RSt K Γ H h σd σ → RM K Γ H h → D.ct σ H
def liftS (K : PySem.W.Frag) (Γ : GI) (t : DTS) : TS := fun D σ H => ∃ σd h, RSt K Γ H h σd σ ∧ RM K Γ H h ∧ t (liftE K Γ H h D) σd h
def MonoS (t : DTS) : Prop := ∀ D D' σ h, DEnds.Le D D' → t D σ h → t D' σ h
structure DS (X : Cx) (Γ : GI) (st : Stmt) (t : DTS) : Prop where
  mono : MonoS t
  ps : PS X st (liftS X.K Γ t)
structure DSs (X : Cx) (Γ : GI) (st : List Stmt) (t : DTS) : Prop where
  mono : MonoS t
  ps : PSs X st (liftS X.K Γ t)
theorem liftE_up {K : PySem.W.Frag} {H0 H1 : Hp} {h0 h1 : MH} {D : Ends} (p : PX Γ H0 h0 H1 h1) : DEnds.Le (liftE K Γ H0 h0 D) (liftE K Γ H1 h1 D) :=
  ⟨fun _ _ w σ H q => w σ H (p.trans q), fun _ _ w v H q => w v H (p.trans q), fun _ _ w σ H q => w σ H (p.trans q), fun _ _ w σ H q => w σ H (p.trans q)⟩
theorem le_refl {D : DEnds} : DEnds.Le D D := ⟨fun _ _ w => w, fun _ _ w => w, fun _ _ w => w, fun _ _ w => w⟩

section
variable {X : Cx} {a b c e : Expr} {pos p2 : Pos} {ta tb tc te : DTE} {t u : DTS} {st : Stmt} {rest : List Stmt} {es : List Expr}
def dNext : DTS := fun D σ h => D.nx σ h
def dSeq (t u : DTS) : DTS := fun D σ h => t { D with nx := fun σ' h' => u D σ' h' } σ h
theorem mono_seq (mt : MonoS t) (mu : MonoS u) : MonoS (dSeq t u) := fun D D' σ h l w => by
  refine mt _ _ _ _ ?_ w
  exact ⟨fun σ' h' w' => mu _ _ _ _ l w', l.rt, l.bk, l.ct⟩
theorem dss_nil : DSs X Γ [] dNext := ⟨fun D D' σ h l w => l.nx _ _ w, pss_imp pss_nil fun D σ H ⟨σd, h, rs, rm, w⟩ => w σ H PX.refl rs rm⟩
theorem dss_cons (h1 : DS X Γ st t) (h2 : DSs X Γ rest u) : DSs X Γ (st :: rest) (dSeq t u) :=
  ⟨mono_seq h1.mono h2.mono, pss_imp (pss_cons h1.ps h2.ps) fun D σ H ⟨σd, h, rs, rm, w⟩ => ⟨σd, h, rs, rm, by
    refine h1.mono _ _ _ _ ?_ w
    exact ⟨fun σd' h' w' σ' H' px rs' rm' => ⟨σd', h', rs', rm', h2.mono _ _ _ _ (liftE_up px) w'⟩, fun _ _ w' => w', fun _ _ w' => w', fun _ _ w' => w'⟩⟩⟩
theorem dss_one (h1 : DS X Γ st t) : DSs X Γ [st] t := ⟨h1.mono, pss_one h1.ps⟩
def dDrop (te : DTE) : DTS := fun D σ h => te σ h fun _ h1 => D.nx σ h1
theorem ds_expr (he : DE X Γ e te) (hs : swapsWith e none pos.line X.env = pure false := by rfl) : DS X Γ (.Expr e pos) (dDrop te) :=
  ⟨fun D D' σ h l w => he.mono _ _ _ _ (fun _ _ w' => l.nx _ _ w') w, ps_imp (ps_expr he.pe hs) fun D σ H ⟨σd, h, rs, rm, w⟩ => lift_mk he.mono rs rm w fun x h1 v H1 px rs1 rv rm1 w1 => w1 σ H1 px rs1 rm1⟩
def dRet (te : DTE) : DTS := fun D σ h => te σ h D.rt
theorem ds_ret (he : DE X Γ e te) : DS X Γ (.Return (some e) pos) (dRet te) :=
  ⟨fun D D' σ h l w => he.mono _ _ _ _ (fun _ _ w' => l.rt _ _ w') w, ps_imp (ps_ret he.pe) fun D σ H ⟨σd, h, rs, rm, w⟩ => lift_mk he.mono rs rm w fun x h1 v H1 px rs1 rv rm1 w1 => w1 v H1 px rv rm1⟩
/-- return of one's own list as data -/
def dRetF (te : DTE) : DTS := fun D σ h => te σ h fun x h1 => match fz1 x h1 with
  | some (d, h2) => D.rt (.d d) h2
  | none => False
def dRetN : DTS := fun D _ h => D.rt (.d .none) h
def dIfS (c : DTT) (t u : DTS) : DTS := fun D σ h => c σ h fun b h1 => if b = true then t D σ h1 else u D σ h1
theorem mono_ifS {c : DTT} (mc : Mono c) (mt : MonoS t) (mu : MonoS u) : MonoS (dIfS c t u) := fun D D' σ h l w => mc _ _ _ _ (fun b h1 w1 => by
  cases b with
  | true => exact mt _ _ _ _ l w1
  | false => exact mu _ _ _ _ l w1) w
theorem ds_if {c : Expr} {a b : List Stmt} {tc : DTT} (hc : DT X Γ c tc) (ha : DSs X Γ a t) (hb : DSs X Γ b u) : DS X Γ (.If c a b pos) (dIfS tc t u) :=
  ⟨mono_ifS hc.mono ha.mono hb.mono, ps_imp (ps_if hc.pt ha.ps hb.ps) fun D σ H ⟨σd, h, rs, rm, w⟩ => lift_mk hc.mono rs rm w fun b h1 k H1 px rs1 rv rm1 w1 => by
    subst rv
    cases b with
    | true => exact iteT ⟨σd, h1, rs1, rm1, ha.mono _ _ _ _ (liftE_up px) w1⟩
    | false => exact iteF ⟨σd, h1, rs1, rm1, hb.mono _ _ _ _ (liftE_up px) w1⟩⟩
inductive Tg where
  | nm (i : Nat)
  | tup (is : List Nat)
  | star (is : List Nat) (z : Nat)
def Tg.isStar : Tg → Bool
  | .star _ _ => true
  | _ => false
/-- (a, b, .., *r) = a tuple: n names ahead of the star, a new list of the others -/
def gStar (K : PySem.W.Frag) (n : Nat) (t : TGs) : TG := fun v σ H Q => ∃ a xs, v = .ref a ∧ SqT K H a xs ∧ n ≤ xs.length ∧ ∀ D, H D = none → t (xs.take n ++ [.ref D]) σ (upd H D (.lst (xs.drop n))) Q
def rawGs : List Nat → TGs
  | [] => gNil
  | i :: r => gCons (gName i) (rawGs r)
def rawT (K : PySem.W.Frag) : Tg → TG
  | .nm i => gName i
  | .tup is => gTup K is.length (rawGs is)
  | .star is z => gStar K is.length (rawGs (is ++ [z]))
def setAll : List Nat → List PyData → DSt → DSt
  | i :: r, d :: ds, σ => setAll r ds (σ.set i (some (.d d)))
  | _, _, σ => σ
def bindT (g : Tg) (x : SV) (σ : DSt) : Option DSt := match g with
  | .nm i => some (σ.set i (some x))
  | .tup is => match x with
    | .d (.tuple ds) => if ds.length = is.length then some (setAll is ds σ) else none
    | _ => none
  | .star is z => match x with
    | .d (.tuple ds) => if is.length ≤ ds.length then some (setAll (is ++ [z]) (ds.take is.length ++ [.list (ds.drop is.length)]) σ) else none
    | _ => none
def Tg.ix : Tg → List Nat
  | .nm i => [i]
  | .tup is => is
  | .star is z => is ++ [z]
theorem wipe_at {i : Nat} {o : Option V} : ∀ (vs : List Nat) (σ : L2.St), (wipe (σ.set i o) vs).set i none = (wipe σ vs).set i none
  | [], σ => by
    show (σ.set i o).set i none = σ.set i none
    rw [List.set_set]
  | k :: r, σ => by
    show ((wipe (σ.set i o) r).set k none).set i none = ((wipe σ r).set k none).set i none
    by_cases e : k = i
    · subst e
      rw [List.set_set, List.set_set]
      exact wipe_at r σ
    · rw [List.set_comm _ _ e, wipe_at r σ, List.set_comm _ _ e]
theorem wipe_set {σ : L2.St} {i : Nat} {o : Option V} : ∀ {vs : List Nat}, i ∈ vs → wipe (σ.set i o) vs = wipe σ vs
  | [], h => by cases h
  | j :: r, h => by
    show (wipe (σ.set i o) r).set j none = (wipe σ r).set j none
    by_cases e : i = j
    · subst e; exact wipe_at r σ
    · rw [wipe_set (vs := r) (by rcases List.mem_cons.mp h with z | z; exact absurd z e; exact z)]
theorem wipe_wipe {σ : L2.St} : ∀ {vs : List Nat}, wipe (wipe σ vs) vs = wipe σ vs
  | [] => rfl
  | j :: r => by
    show (wipe ((wipe σ r).set j none) r).set j none = (wipe σ r).set j none
    rw [wipe_at r (wipe σ r), wipe_wipe (vs := r)]
theorem rawGs_ok {K : PySem.W.Frag} {H : Hp} {h : MH} {Q : L2.St → Hp → Prop} : ∀ {is : List Nat} {vs : List V} {ds : List PyData} {σd : DSt} {σ : L2.St}, DpAll K (Fz Γ H h) vs ds → ds.length = is.length → RSt K Γ H h σd σ →
    (∀ σ', RSt K Γ H h (setAll is ds σd) σ' → (∀ l, (∀ i ∈ is, i ∈ l) → wipe σ' l = wipe σ l) → Q σ' H) → rawGs is vs σ H Q
  | [], _, [], _, _, hd, _, rs, k => by cases hd; exact ⟨rfl, k _ rs fun _ _ => rfl⟩
  | [], _, _ :: _, _, _, _, hl, _, _ => by simp at hl
  | _ :: _, _, [], _, _, _, hl, _, _ => by simp at hl
  | i :: r, _, d :: ds, σd, σ, hd, hl, rs, k => by
    cases hd with
    | cons h1 h2 =>
      refine ⟨_, _, rfl, ?_⟩
      exact rawGs_ok h2 (by simpa using hl) (rs.set (show RV K Γ H h (.d d) _ from h1)) fun σ' rs' hw => k σ' rs' fun l hl' => by
        rw [hw l fun j hj => hl' j (List.mem_cons_of_mem _ hj), wipe_set (hl' i List.mem_cons_self)]
theorem rawT_okS {K : PySem.W.Frag} {H : Hp} {h : MH} {g : Tg} {x : SV} {v : V} {σd σd' : DSt} {σ : L2.St} {Q : L2.St → Hp → Prop} (rv : RV K Γ H h x v) (rs : RSt K Γ H h σd σ) (rm : RM K Γ H h) (e : bindT g x σd = some σd')
    (k : ∀ σ' H', PX Γ H h H' h → RM K Γ H' h → RSt K Γ H' h σd' σ' → (∀ l, (∀ i ∈ g.ix, i ∈ l) → wipe σ' l = wipe σ l) → Q σ' H') : rawT K g v σ H Q := by
  cases g with
  | nm i =>
    cases e
    exact k _ _ PX.refl rm (rs.set rv) fun l hl => wipe_set (hl i List.mem_cons_self)
  | tup is =>
    cases x with
    | own _ => cases e
    | d x => cases x with
      | tuple ds =>
        have e' : (if ds.length = is.length then some (setAll is ds σd) else none) = some σd' := e
        by_cases q : ds.length = is.length
        · rw [if_pos q] at e'
          cases e'
          have rv' : Dp K (Fz Γ H h) v (.tuple ds) := rv
          cases rv' with
          | @tup a vs _ h1 h2 =>
            exact ⟨_, _, rfl, sqT_up fz_sub h1, by rw [dps_len h2]; exact q, rawGs_ok h2 q rs fun σ' rs' w => k σ' H PX.refl rm rs' w⟩
        · rw [if_neg q] at e'; cases e'
      | _ => cases e
  | star is z =>
    cases x with
    | own _ => cases e
    | d x => cases x with
      | tuple ds =>
        have e' : (if is.length ≤ ds.length then some (setAll (is ++ [z]) (ds.take is.length ++ [.list (ds.drop is.length)]) σd) else none) = some σd' := e
        by_cases q : is.length ≤ ds.length
        · rw [if_pos q] at e'
          cases e'
          have rv' : Dp K (Fz Γ H h) v (.tuple ds) := rv
          cases rv' with
          | @tup a vs _ h1 h2 =>
            refine ⟨_, _, rfl, sqT_up fz_sub h1, by rw [dps_len h2]; exact q, fun D nD => ?_⟩
            have dd : DpAll K (Fz Γ H h) (vs.drop is.length) (ds.drop is.length) := dps_drop _ h2
            have px : PX Γ H h (upd H D (.lst (vs.drop is.length))) h := rm.px nD
            have rm1 : RM K Γ (upd H D (.lst (vs.drop is.length))) h := RM.new nD rm
            have nl : Dp K (Fz Γ (upd H D (.lst (vs.drop is.length))) h) (.ref D) (.list (ds.drop is.length)) := Dp.lst (SqL.of (Fz.of upd_same (rm.tracked nD) (rm.notx nD))) (dps_up px.ex _ _ dd)
            refine rawGs_ok (dps_app (dps_up px.ex _ _ (dps_take is.length h2)) (.cons nl .nil)) (by simp; omega) (rs.up px) fun σ' rs' w => k σ' _ px rm1 rs' w
        · rw [if_neg q] at e'; cases e'
      | _ => cases e
theorem rawT_ok {K : PySem.W.Frag} {H : Hp} {h : MH} {g : Tg} {x : SV} {v : V} {σd σd' : DSt} {σ : L2.St} {Q : L2.St → Hp → Prop} (ns : g.isStar = false) (rv : RV K Γ H h x v) (rs : RSt K Γ H h σd σ) (e : bindT g x σd = some σd')
    (k : ∀ σ', RSt K Γ H h σd' σ' → (∀ l, (∀ i ∈ g.ix, i ∈ l) → wipe σ' l = wipe σ l) → Q σ' H) : rawT K g v σ H Q := by
  cases g with
  | nm i =>
    cases e
    exact k _ (rs.set rv) fun l hl => wipe_set (hl i List.mem_cons_self)
  | star is z => cases ns
  | tup is =>
    cases x with
    | own _ => cases e
    | d x => cases x with
      | tuple ds =>
        have e' : (if ds.length = is.length then some (setAll is ds σd) else none) = some σd' := e
        by_cases q : ds.length = is.length
        · rw [if_pos q] at e'
          cases e'
          have rv' : Dp K (Fz Γ H h) v (.tuple ds) := rv
          cases rv' with
          | @tup a vs _ h1 h2 =>
            exact ⟨_, _, rfl, sqT_up fz_sub h1, by rw [dps_len h2]; exact q, rawGs_ok h2 q rs k⟩
        · rw [if_neg q] at e'; cases e'
      | _ => cases e
structure DG (X : Cx) (tg : Expr) (g : Tg) : Prop where
  pg : PG X tg (rawT X.K g)
structure DGs (X : Cx) (tg : List Expr) (is : List Nat) : Prop where
  pg : PGs X tg (rawGs is)
theorem dg_nm (i : Nat) {x : Str} (hN : X.N.Nodup) (hi : X.N[i]? = some x := by rfl) (hx : Loc X.env.scope x := by first | exact Or.inl rfl | exact Or.inr rfl) (hf : X.fn x = true ∨ X.env.scope.names.lookup x = some .local := by first | exact .inl rfl | exact .inr rfl) : DG X (.Name x pos) (.nm i) := ⟨pg_name hN hi hx hf⟩
theorem dgs_nil : DGs X [] [] := ⟨pgs_nil⟩
theorem dgs_cons {tg : Expr} {tgs : List Expr} {i : Nat} {is : List Nat} (h1 : DG X tg (.nm i)) (h2 : DGs X tgs is) (hs : (assignEach (tg :: tgs) X.env).map (·.2) = assign tg X.env :: (assignEach tgs X.env).map (·.2) := by rfl) : DGs X (tg :: tgs) (i :: is) := ⟨pgs_cons h1.pg h2.pg hs⟩
theorem dg_tup {k : Nat} {is : List Nat} (hc : X.calm = true) (h : DGs X es is) (hn : (assignEach es X.env).length = is.length := by rfl) (hst : (assignEach es X.env).findIdx? (·.1) = none := by rfl) : DG X (.Tuple es k pos) (.tup is) := ⟨pg_tup hc h.pg hn hst⟩

section
variable {prog : Program} {w : World} {A : Around} {EX : Value → Shared → Prop} {s : Shared} {env : Env}
end
/-- target = value -/
def dAsg (te : DTE) (g : Tg) : DTS := fun D σ h => te σ h fun x h1 => match bindT g x σ with
  | some σ' => D.nx σ' h1
  | none => False
theorem mono_asg {g : Tg} (me : Mono te) : MonoS (dAsg te g) := fun D D' σ h l w => me _ _ _ _ (fun x h1 w1 => by
  split at w1
  · exact l.nx _ _ w1
  · exact w1) w
theorem asg_lift {K : PySem.W.Frag} {g : Tg} (me : Mono te) : ∀ D σ H, liftS K Γ (dAsg te g) D σ H → tAsg (liftV K Γ te) (rawT K g) D σ H := fun D σ H ⟨σd, h, rs, rm, w⟩ =>
  lift_mk me rs rm w fun x h1 v H1 px rs1 rv rm1 w1 => by
    split at w1
    · rename_i σ' e1
      exact rawT_okS rv rs1 rm1 e1 fun σr H2 px2 rm2 rs' _ => w1 σr H2 (px.trans px2) rs' rm2
    · exact w1.elim
theorem ds_asg {tg : Expr} {g : Tg} (he : DE X Γ e te) (hg : DG X tg g) (hs : swapsWithSole [tg] e pos.line X.env = pure false := by rfl) (hw : swappedStores [tg] e X.env = pure none := by rfl)
    (h1 : (assignEach [tg] X.env).map (·.2) = [assign tg X.env] := by rfl) : DS X Γ (.Assign [tg] e pos) (dAsg te g) :=
  ⟨mono_asg he.mono, ps_imp (ps_asg he.pe hg.pg hs hw h1) (asg_lift he.mono)⟩
/-- name = value -/
theorem ds_set (i : Nat) {x : Str} {pos' : Pos} (hN : X.N.Nodup) (he : DE X Γ e te) (hi : X.N[i]? = some x := by rfl) (hx : Loc X.env.scope x := by first | exact Or.inl rfl | exact Or.inr rfl) (hs : swapsWith e (some (.Name x pos')) pos.line X.env = pure false := by rfl)
    (hf : X.fn x = true ∨ X.env.scope.names.lookup x = some .local := by first | exact .inl rfl | exact .inr rfl) : DS X Γ (.Assign [.Name x pos'] e pos) (dAsg te (.nm i)) :=
  ⟨mono_asg he.mono, ps_imp (ps_set hN hi hx he.pe hs hf) (asg_lift (g := .nm i) he.mono)⟩
/-- a, b = x, y -/
def dPar (i j : Nat) (ta : DTA) : DTS := fun D σ h => ta σ h fun xs h1 => match xs with
  | [x, y] => D.nx ((σ.set i (some x)).set j (some y)) h1
  | _ => False
def dPar3 (i j l : Nat) (ta : DTA) : DTS := fun D σ h => ta σ h fun xs h1 => match xs with
  | [x, y, z] => D.nx (((σ.set i (some x)).set j (some y)).set l (some z)) h1
  | _ => False
/-- what a store to a subscript makes of what is one's own -/
def setO (o : MO) (i y : SV) : Option MO := match o with
  | .seq xs => match asInt i with
    | some k => match ixN xs.length k with
      | some j => some (.seq (xs.set j y))
      | none => none
    | none => none
  | .dct ps => match asKey i with
    | some k => if Nat.blt ps.length 16777216 = true then some (.dct (putS ps k y)) else none
    | none => none
  | _ => none
theorem pairs_set {α β : Type} {R : α → β → Prop} {a : α} {b : β} (r : R a b) : ∀ {l : List α} {m : List β} (j : Nat), Paired R l m → Paired R (l.set j a) (m.set j b)
  | _, _, _, .nil => .nil
  | _, _, 0, .cons _ t => .cons r t
  | _, _, j + 1, .cons h t => .cons h (pairs_set r j t)
def rSetG (o i v : V) (H : Hp) (Q : Hp → Prop) : Prop := rSetL o i v H Q ∨ rSetD o i v H Q
theorem set_G {X : Cx} (hu : X.A.units + 1 < cLine) : PSet X rSetG := by
  intro pins s σ H o i v ov iv u Q I ro ri rv h
  rcases h with h | h
  · exact set_list pins s σ H o i v ov iv u Q I ro ri rv h
  · exact set_dict hu pins s σ H o i v ov iv u Q I ro ri rv h
theorem setO_ok {K : PySem.W.Frag} {Γ : GI} {H : Hp} {h : MH} {x i y : SV} {u v w : V} {p : Addr × MO} {o : MO} (rm : RM K Γ H h) (rx : RV K Γ H h x u) (ri : RV K Γ H h i v) (ry : RV K Γ H h y w) (e : ownO h x = some p) (e2 : setO p.2 i y = some o) {Q : Hp → Prop}
    (k : ∀ H', PX Γ H h H' (mput h p.1 o) → RM K Γ H' (mput h p.1 o) → Q H') : rSetG u v w H Q := by
  obtain ⟨ex, ea⟩ := ownO_ok e
  subst ex
  have ev : u = .ref p.1 := rx
  subst ev
  have ry' : RVF K (Fz Γ H h) y w := by cases y <;> exact ry
  obtain ⟨u0, f1, f2⟩ := ro_at (rm.ob _ _ ea)
  obtain ⟨a, m⟩ := p
  simp only at e2 k f1 f2 ea
  unfold setO at e2
  split at e2
  · split at e2
    · rename_i j0 e3
      split at e2
      · rename_i j e4
        cases e2
        cases u0 <;> first | exact f2.elim | skip
        rename_i vs
        refine .inl ⟨a, vs, j0, j, rfl, asInt_ok ri e3, f1, by rw [← pairs_len f2]; exact e4, ?_⟩
        exact k _ (put_px ea rm) (put_rmG ea rm (show Paired _ _ _ from pairs_set ry' j f2))
      · cases e2
    · cases e2
  · split at e2
    · rename_i j0 e3
      split at e2
      · rename_i e4
        cases e2
        cases u0 <;> first | exact f2.elim | skip
        rename_i kvs
        refine .inr ⟨a, _, rfl, ?_, k _ (put_px (o := .dK (putK kvs j0 w)) ea rm) (put_rmG ea rm (show Paired _ _ _ from putS_ok f2 ry'))⟩
        rw [asKey_ok ri e3]
        exact DPut.k f1 (by rw [← pairs_len f2, sizeLine_eq]; simpa using e4)
      · cases e2
    · cases e2
  · cases e2
/-- x[i] = e, x one's own -/
def dSetIx (te to ti : DTE) : DTS := fun D σ h => te σ h fun y h1 => to σ h1 fun x h2 => ti σ h2 fun i h3 => match ownO h3 x with
  | some p => match setO p.2 i y with
    | some o => D.nx σ (mput h3 p.1 o)
    | none => False
  | none => match fz1 y h3 with
    | some (d, h4) => match ownL h4 x, asInt i with
      | some (a, ds), some k => match ixN ds.length k with
        | some j => D.nx σ (mput h4 a (.lst (ds.set j d)))
        | none => False
      | _, _ => False
    | none => False
theorem ds_setIx {o i e : Expr} {to ti te : DTE} {p3 : Pos} (hu : X.A.units + 1 < cLine) (he : DE X Γ e te) (ho : DE X Γ o to) (hi : DE X Γ i ti)
    (ha : ∀ v, assign (.Subscript o i p3) X.env v = (do
      let ov ← holding [v] (eval o X.env)
      let iv ← holding [v, ov] (eval i X.env)
      standAt p3
      holding [v, ov, iv] (setItem ov iv v)
      release [v, ov, iv] []) := by intro _; rfl)
    (hs : swapsWithSole [.Subscript o i p3] e pos.line X.env = pure false := by rfl) (hw : swappedStores [.Subscript o i p3] e X.env = pure none := by rfl)
    (h1 : (assignEach [.Subscript o i p3] X.env).map (·.2) = [assign (.Subscript o i p3) X.env] := by rfl) : DS X Γ (.Assign [.Subscript o i p3] e pos) (dSetIx te to ti) :=
  ⟨fun D D' σ h l w => he.mono _ _ _ _ (fun y h1 w1 => ho.mono _ _ _ _ (fun x h2 w2 => hi.mono _ _ _ _ (fun k h3 w3 => by
    split at w3
    · split at w3
      · exact l.nx _ _ w3
      · exact w3
    · split at w3
      · split at w3
        · split at w3
          · exact l.nx _ _ w3
          · exact w3
        · exact w3
      · exact w3) w2) w1) w, ps_imp (ps_asg he.pe (pg_sub ho.pe hi.pe (set_G hu) ha) hs hw h1) fun D σ H ⟨σd, h, rs, rm, w⟩ =>
    lift_mk he.mono rs rm w fun y h1 yv H1 px rs1 ry rm1 w1 => lift_mk ho.mono rs1 rm1 w1 fun x h2 xv H2 px2 rs2 rx rm2 w2 => lift_mk hi.mono rs2 rm2 w2 fun k h3 kv H3 px3 rs3 rk rm3 w3 => by
      split at w3
      · rename_i p e0
        split at w3
        · rename_i o' e1
          exact setO_ok rm3 (rx.up px3) rk ((ry.up px2).up px3) e0 e1 fun H' px5 rm5 => w3 _ _ (((px.trans px2).trans px3).trans px5) (rs3.up px5) rm5
        · exact w3.elim
      · split at w3
        · rename_i d h4 e1
          obtain ⟨p4, rm4, rd⟩ := fz1_ok ((ry.up px2).up px3) rm3 e1
          split at w3
          · rename_i a ds j0 e2 e3
            split at w3
            · rename_i j e4
              obtain ⟨ex, ea⟩ := ownL_ok e2
              subst ex
              have ev : xv = .ref a := rx
              subst ev
              obtain ⟨ws, f1, f2⟩ := rm4.ob a _ ea
              have px5 : PX Γ H3 h4 (upd H3 a (.lst (ws.set j yv))) (mput h4 a (.lst (ds.set j d))) := put_px ea rm4
              refine .inl ⟨a, ws, j0, j, rfl, asInt_ok rk e3, f1, by rw [dps_len f2]; exact e4, ?_⟩
              exact w3 _ _ ((((px.trans px2).trans px3).trans p4).trans px5) ((rs3.up p4).up px5) (put_rm ea rm4 (dps_set j rd f2))
            · exact w3.elim
          · exact w3.elim
        · exact w3.elim⟩
theorem slot_get {σ : DSt} {i : Nat} {y : SV} (hy : slot σ i = some y) : σ[i]? = some (some y) := by
  unfold slot at hy
  cases q : σ[i]? with
  | none => rw [q] at hy; cases hy
  | some o => rw [q] at hy; subst hy; rfl
def whN (c : DTT) (tb : DTS) (D : DEnds) : Nat → DSt → MH → Prop
  | 0, _, _ => False
  | n + 1, σ, h => c σ h fun b h1 => if b = true then tb { nx := fun σ' h' => whN c tb D n σ' h', ct := fun σ' h' => whN c tb D n σ' h', bk := D.nx, rt := D.rt } σ h1 else D.nx σ h1
def dWhile (c : DTT) (tb : DTS) : DTS := fun D σ h => ∃ n, whN c tb D n σ h
theorem whN_le {c : DTT} {tb : DTS} (mc : Mono c) (mb : MonoS tb) {D D' : DEnds} (l : DEnds.Le D D') : ∀ n σ h, whN c tb D n σ h → whN c tb D' n σ h
  | 0, _, _, w => w
  | n + 1, σ, h, w => mc _ _ _ _ (fun b h1 w1 => by
    cases b with
    | true =>
      refine mb _ _ _ _ ?_ w1
      exact ⟨whN_le mc mb l n, l.rt, l.nx, whN_le mc mb l n⟩
    | false => exact l.nx _ _ w1) w
theorem ds_while {c : Expr} {body : List Stmt} {tc : DTT} {tb : DTS} (hp : PassesOwn (model X.prog X.w) X.A X.env X.xe) (hc : DT X Γ c tc) (hb : DSs X Γ body tb) : DS X Γ (.While c body [] pos) (dWhile tc tb) :=
  ⟨fun D D' σ h l ⟨n, w⟩ => ⟨n, whN_le hc.mono hb.mono l n σ h w⟩, ps_imp (ps_while hp hc.pt hb.ps) fun D σ H ⟨σd, h, rs, rm, n, w⟩ => by
    refine ⟨fun m σ' H' => ∃ σd' h', PX Γ H h H' h' ∧ RSt X.K Γ H' h' σd' σ' ∧ RM X.K Γ H' h' ∧ whN tc tb (liftE X.K Γ H h D) m σd' h', ⟨n, σd, h, PX.refl, rs, rm, w⟩, ?_⟩
    rintro m σ' H' ⟨σd', h', px, rs', rm', w'⟩
    cases m with
    | zero => exact w'.elim
    | succ m =>
      refine lift_mk hc.mono rs' rm' w' fun b h1 k H1 px1 rs1 rv rm1 w1 => ?_
      subst rv
      cases b with
      | false => exact w1 σ' H1 (px.trans px1) rs1 rm1
      | true =>
        refine ⟨fun σ2 H2 => ∃ σd2 h2, PX Γ H h H2 h2 ∧ RSt X.K Γ H2 h2 σd2 σ2 ∧ RM X.K Γ H2 h2 ∧ whN tc tb (liftE X.K Γ H h D) m σd2 h2, fun σ2 H2 z => ⟨m, Nat.lt_succ_self m, z⟩, σd', h1, rs1, rm1, hb.mono _ _ _ _ ?_ w1⟩
        have px2 := px.trans px1
        exact ⟨fun σd2 h2 w2 σ2 H2 q r2 m2 => ⟨σd2, h2, px2.trans q, r2, m2, w2⟩, fun x2 h2 w2 v2 H2 q r2 m2 => w2 v2 H2 (px2.trans q) r2 m2, fun σd2 h2 w2 σ2 H2 q r2 m2 => w2 σ2 H2 (px2.trans q) r2 m2, fun σd2 h2 w2 σ2 H2 q r2 m2 => ⟨σd2, h2, px2.trans q, r2, m2, w2⟩⟩⟩
end
end DL

namespace DL
open PySem PySem.Spec PyProof.Rows L2
set_option autoImplicit true

/-- what the iterator J gives, while what is known (F) stands: the things ds -/
def YD (K : PySem.W.Frag) (F : Hp) (d : PyData) (H : Hp) (x : V) (H' : Hp) : Prop :=
  (H' = H ∧ Dp K F x d) ∨ ∃ T a b da db, x = .ref T ∧ H T = none ∧ H' = upd H T (.tup [a, b]) ∧ d = .tuple [da, db] ∧ Dp K F a da ∧ Dp K F b db
def Gives (K : PySem.W.Frag) (F : Hp) (J : It) (ds : List PyData) : Prop :=
  Walk J ds.length (fun H => Sub F H) fun i H x H' => Sub F H ∧ ∃ d, ds[i]? = some d ∧ YD K F d H x H'
abbrev DTI := DSt → MH → (List PyData → MH → Prop) → Prop
def liftI (K : PySem.W.Frag) (Γ : GI) (w : DTI) : TI := fun σ H R => ∃ σd h, RSt K Γ H h σd σ ∧ RM K Γ H h ∧ w σd h fun ds h' => ∀ J H', PX Γ H h H' h' → RM K Γ H' h' → Gives K (Fz Γ H' h') J ds → R J H'
structure DWk (X : Cx) (Γ : GI) (tg iter : Expr) (w : DTI) : Prop where
  mono : Mono w
  pi : PI X tg iter (liftI X.K Γ w)
theorem pi_imp {X : Cx} {tg e : Expr} {t t' : TI} (p : PI X tg e t) (k : ∀ σ H Q, t' σ H Q → t σ H Q) : PI X tg e t' := ⟨fun pins s σ H Q I w => p.run pins s σ H Q I (k σ H Q w)⟩
theorem gives_list {K : PySem.W.Frag} {F : Hp} {a : Addr} {vs : List V} {ds : List PyData} (h : SqL K F a vs) (r : DpAll K F vs ds) : Gives K F (Itl K a) ds := by
  unfold Gives
  rw [← dps_len r]
  have w0 := walk_list (K := K) (a := a) (xs := vs)
  refine ⟨fun i H hi s => w0.goes i H hi (sqL_up s h), fun H s => w0.stops H (sqL_up s h), fun i H x H' hi s y => ⟨s, ?_⟩⟩
  obtain ⟨e, e2⟩ := w0.yields i H x H' hi (sqL_up s h) y
  obtain ⟨d, e3, e4⟩ := dps_getv r e2
  exact ⟨d, e3, .inl ⟨e, e4⟩⟩
theorem gives_tup {K : PySem.W.Frag} {F : Hp} {a : Addr} {vs : List V} {ds : List PyData} (h : SqT K F a vs) (r : DpAll K F vs ds) : Gives K F (Itt K a) ds := by
  unfold Gives
  rw [← dps_len r]
  have w0 := walk_tup (K := K) (a := a) (xs := vs)
  refine ⟨fun i H hi s => w0.goes i H hi (sqT_up s h), fun H s => w0.stops H (sqT_up s h), fun i H x H' hi s y => ⟨s, ?_⟩⟩
  obtain ⟨e, e2⟩ := w0.yields i H x H' hi (sqT_up s h) y
  obtain ⟨d, e3, e4⟩ := dps_getv r e2
  exact ⟨d, e3, .inl ⟨e, e4⟩⟩
theorem rgD_get {a b : Int} {i : Nat} (h : i < (b - a).toNat) : (rgD a b)[i]? = some (.int (a + (i : Nat))) := by
  unfold rgD
  rw [List.getElem?_map, List.getElem?_range h]
  rfl
theorem rgD_length (a b : Int) : (rgD a b).length = (b - a).toNat := by unfold rgD; rw [List.length_map, List.length_range]
theorem gives_range {K : PySem.W.Frag} {F : Hp} {a b : Int} : Gives K F (Itr a (b - a).toNat) (rgD a b) := by
  unfold Gives
  rw [rgD_length]
  have w0 := walk_range (lo := a) (n := (b - a).toNat)
  refine ⟨fun i H hi _ => w0.goes i H hi trivial, fun H _ => w0.stops H trivial, fun i H x H' hi s y => ⟨s, ?_⟩⟩
  obtain ⟨e, e2⟩ := w0.yields i H x H' hi trivial y
  exact ⟨_, rgD_get hi, .inl ⟨e, by rw [e2]; exact .int _⟩⟩
/-- a list or a tuple -/
def iSq (K : PySem.W.Frag) (tl : TE) : TI := fun σ H R => tl σ H fun x H1 => ∃ a, x = .ref a ∧ ((∃ xs, SqL K H1 a xs ∧ R (Itl K a) H1) ∨ (∃ xs, SqT K H1 a xs ∧ R (Itt K a) H1))
section
variable {X : Cx} {a b c e : Expr} {pos p2 : Pos} {ta tb tc te : DTE} {tg : Expr}
theorem pi_sq {l : Expr} {tl : TE} (hl : PE X l tl) : PI X tg l (iSq X.K tl) := by
  constructor
  intro pins s σ H R I hw
  refine thn (hl.run pins s σ H _ I hw) ?_
  rintro v s1 ⟨x, H1, I1, r1, a, ex, q⟩
  subst ex
  cases r1
  have fresh : ∀ b, b ∈ [s1.heap.objs.size] → FpOk X pins H1 b := fun b hb => by
    rw [List.mem_singleton.mp hb]
    exact I1.fpOk (Nat.le_refl _) (I1.hok.fresh (Nat.le_refl _))
  rcases q with ⟨xs, sq, qq⟩ | ⟨xs, sq, qq⟩
  · obtain ⟨its, _, pl, _⟩ := I1.list sq
    refine wpAny_pyIter_list pl.isList ?_
    exact ⟨_, [s1.heap.objs.size], _, _, H1, rfl, I1.kept (t' := s1.toks) (fun b o z => Heap.get?_push_of_some _ z), turn_list a s1.heap.objs.size, ⟨_, Heap.get?_push_size _ rfl, rfl, rfl⟩, fresh, qq⟩
  · obtain ⟨its, _, pl, _⟩ := I1.tuple sq
    refine wpAny_pyIter_tuple (show s1.heap.IsTuple a its.toArray from pl) ?_
    exact ⟨_, [s1.heap.objs.size], _, _, H1, rfl, I1.kept (t' := s1.toks) (fun b o z => Heap.get?_push_of_some _ z), turn_tuple a s1.heap.objs.size, ⟨_, Heap.get?_push_size _ rfl, rfl, rfl⟩, fresh, qq⟩
/-- for x in (a list, a tuple); one's own list is let go -/
def wSeq (te : DTE) : DTI := fun σ h Q => te σ h fun x h1 => match fz1 x h1 with
  | some (.list ds, h2) => Q ds h2
  | some (.tuple ds, h2) => Q ds h2
  | _ => False
theorem dw_seq (he : DE X Γ e te) : DWk X Γ tg e (wSeq te) :=
  ⟨fun σ h Q Q' k w => he.mono _ _ _ _ (fun x h1 w1 => by
    split at w1
    · exact k _ _ w1
    · exact k _ _ w1
    · exact w1) w, pi_imp (pi_sq he.pe) fun σ H R ⟨σd, h, rs, rm, w⟩ => lift_mk he.mono rs rm w fun x h1 v H1 px rs1 rv rm1 w1 => by
      split at w1
      · rename_i ds h2 e1
        obtain ⟨p1, r1, d1⟩ := fz1_ok rv rm1 e1
        cases d1 with
        | @lst a vs _ s1 dd => exact ⟨a, rfl, .inl ⟨vs, sqL_up fz_sub s1, w1 _ _ (px.trans p1) r1 (gives_list s1 dd)⟩⟩
      · rename_i ds h2 e1
        obtain ⟨p1, r1, d1⟩ := fz1_ok rv rm1 e1
        cases d1 with
        | @tup a vs _ s1 dd => exact ⟨a, rfl, .inr ⟨vs, sqT_up fz_sub s1, w1 _ _ (px.trans p1) r1 (gives_tup s1 dd)⟩⟩
      · exact w1.elim⟩
def wRg1 (te : DTE) : DTI := fun σ h Q => te σ h fun x h1 => match asInt x with
  | some n => (-(2 ^ 62) ≤ n ∧ n < 2 ^ 62) ∧ Q (rgD 0 n) h1
  | none => False
theorem dw_rg1 {p : Pos} (hg : Gl X "range") (hm : X.mg "range" = none) (ha : DE X Γ a ta) (hs : starEach [a] X.env = [(false, eval a X.env)] := by rfl) : DWk X Γ tg (.Call (.Name "range" p) [a] [] pos) (wRg1 ta) :=
  ⟨fun σ h Q Q' k w => ha.mono _ _ _ _ (fun x h1 w1 => by
    split at w1
    · exact ⟨w1.1, k _ _ w1.2⟩
    · exact w1) w, pi_imp (pi_range1 hg hm (da_cons ha da_nil hs).pa hs) fun σ H R ⟨σd, h, rs, rm, w⟩ => lift_mk (mono_cons ha.mono fun _ _ _ _ k w => k _ _ w) rs rm (C := fun xs h1 => ∃ x, xs = [x] ∧ match asInt x with
      | some n => (-(2 ^ 62) ≤ n ∧ n < 2 ^ 62) ∧ (∀ J H', PX Γ H h H' h1 → RM X.K Γ H' h1 → Gives X.K (Fz Γ H' h1) J (rgD 0 n) → R J H')
      | none => False) (ha.mono _ _ _ _ (fun x h1 w1 => ⟨x, rfl, w1⟩) w) fun xs h1 vs H1 px rs1 rvs rm1 w1 => by
      obtain ⟨x, rfl, w1⟩ := w1
      obtain ⟨v, rfl, rv⟩ := rvs1 rvs
      split at w1
      · rename_i n e1
        have q := w1.2 _ H1 px rm1 (gives_range (a := 0) (b := n))
        rw [Int.sub_zero] at q
        exact ⟨n, by rw [asInt_ok rv e1], w1.1.1, w1.1.2, q⟩
      · exact w1.elim⟩
def forL (g : Tg) (tb : DTS) (D : DEnds) : List PyData → DSt → MH → Prop
  | [], σ, h => D.nx σ h
  | d :: r, σ, h => match bindT g (.d d) σ with
    | some σ1 => tb { nx := fun σ' h' => forL g tb D r σ' h', ct := fun σ' h' => forL g tb D r σ' h', bk := D.nx, rt := D.rt } σ1 h
    | none => False
def dFor (w : DTI) (g : Tg) (tb : DTS) : DTS := fun D σ h => w σ h fun ds h1 => forL g tb D ds σ h1
theorem forL_le {g : Tg} {tb : DTS} (mb : MonoS tb) {D D' : DEnds} (l : DEnds.Le D D') : ∀ ds σ h, forL g tb D ds σ h → forL g tb D' ds σ h
  | [], _, _, w => l.nx _ _ w
  | d :: r, σ, h, w => by
    unfold forL at w ⊢
    split at w
    · refine mb _ _ _ _ ?_ w
      exact ⟨forL_le mb l r, l.rt, l.nx, forL_le mb l r⟩
    · exact w
theorem yd_in {K : PySem.W.Frag} {F H H' : Hp} {h : MH} {d : PyData} {x : V} (s : Sub F (Fz Γ H h)) (rm : RM K Γ H h) (y : YD K F d H x H') : PX Γ H h H' h ∧ RM K Γ H' h ∧ RV K Γ H' h (.d d) x := by
  rcases y with ⟨rfl, q⟩ | ⟨T, a, b, da, db, rfl, n, rfl, rfl, qa, qb⟩
  · exact ⟨PX.refl, rm, dp_up s _ _ q⟩
  · obtain ⟨p1, r1, v1⟩ := new_tup n rm (.cons (dp_up s _ _ qa) (.cons (dp_up s _ _ qb) .nil))
    exact ⟨p1, r1, v1⟩
theorem ds_for {iter : Expr} {body : List Stmt} {w : DTI} {g : Tg} {tb : DTS} (hp : PassesOwn (model X.prog X.w) X.A X.env X.xe) (hc : X.calm = true) (hi : DWk X Γ tg iter w) (hg : DG X tg g) (hb : DSs X Γ body tb)
    (hs : ∀ x, foldedSetIterable iter X.env x = pure x := by intro _; rfl) : DS X Γ (.For tg iter body [] pos) (dFor w g tb) :=
  ⟨fun D D' σ h l w => hi.mono _ _ _ _ (fun ds h1 w1 => forL_le hb.mono l ds σ h1 w1) w, ps_imp (ps_for hp hc hi.pi hg.pg hb.ps hs) fun D σ H ⟨σd, h, rs, rm, w⟩ =>
    ⟨σd, h, rs, rm, hi.mono _ _ _ _ (fun ds h1 w1 J H1 px rm1 gv => by
      refine for_it gv (fun i σ' H' => ∃ σd' h', PX Γ H1 h1 H' h' ∧ RSt X.K Γ H' h' σd' σ' ∧ RM X.K Γ H' h' ∧ forL g tb (liftE X.K Γ H h D) (ds.drop i) σd' h') ⟨σd, h1, PX.refl, rs.up px, rm1, by rw [List.drop_zero]; exact w1⟩ ?_ ?_ ?_
      · rintro i σ' H' _ ⟨σd', h', px', _, _, _⟩ a o e
        exact fz_sub a o (px'.ex a o e)
      · rintro i x σ' H' H2 hi' ⟨σd', h', px', rs', rm', w'⟩ ⟨_, d, e1, y⟩
        obtain ⟨p2, rm2, rv2⟩ := yd_in px'.ex rm' y
        have hdrop : ds.drop i = d :: ds.drop (i + 1) := by
          obtain ⟨hl, hz⟩ := List.getElem?_eq_some_iff.mp e1
          rw [List.drop_eq_getElem_cons hl, hz]
        rw [hdrop] at w'
        unfold forL at w'
        split at w'
        · rename_i σ1 e2
          refine rawT_okS rv2 (rs'.up p2) rm2 e2 fun σr H3 p2b rm3 rsr _ => ⟨σ1, h', rsr, rm3, ?_⟩
          refine hb.mono _ _ _ _ ?_ w'
          have p3 := (px'.trans p2).trans p2b
          have p4 := px.trans p3
          exact ⟨fun σd2 h2 w2 σ2 Hx q r2 m2 => ⟨σd2, h2, p3.trans q, r2, m2, w2⟩, fun x2 h2 w2 v2 Hx q r2 m2 => w2 v2 Hx (p4.trans q) r2 m2, fun σd2 h2 w2 σ2 Hx q r2 m2 => w2 σ2 Hx (p4.trans q) r2 m2, fun σd2 h2 w2 σ2 Hx q r2 m2 => ⟨σd2, h2, p3.trans q, r2, m2, w2⟩⟩
        · exact w'.elim
      · rintro σ' H' ⟨σd', h', px', rs', rm', w'⟩
        rw [List.drop_length] at w'
        exact w' σ' H' (px.trans px') rs' rm') w⟩⟩

def wipeD (σ : DSt) : List Nat → DSt
  | [] => σ
  | i :: r => (wipeD σ r).set i none
theorem RSt.wipe {K : PySem.W.Frag} {H : Hp} {h : MH} {σd : DSt} {σ : L2.St} (rs : RSt K Γ H h σd σ) : ∀ vs, RSt K Γ H h (wipeD σd vs) (L2.wipe σ vs)
  | [] => rs
  | i :: r => (RSt.wipe rs r).clr none
def lcL (g : Tg) (tt : DTT) (te : DTE) (σ : DSt) : List PyData → List PyData → MH → (List PyData → MH → Prop) → Prop
  | [], acc, h, Q => Q acc h
  | d :: r, acc, h, Q => match bindT g (.d d) σ with
    | some σ1 => tt σ1 h fun b h1 => if b = true then te σ1 h1 fun y h2 => match fz1 y h2 with
        | some (z, h3) => lcL g tt te σ r (acc ++ [z]) h3 Q
        | none => False
      else lcL g tt te σ r acc h1 Q
    | none => False
def fLc (w : DTI) (g : Tg) (tt : DTT) (te : DTE) (vs : List Nat) : DTF := fun σ h Q => w σ h fun ds h1 => ds.length ≤ sizeLine ∧ lcL g tt te (wipeD σ vs) ds [] h1 Q
theorem lcL_mono {g : Tg} {tt : DTT} {te : DTE} {σ : DSt} (mt : Mono tt) (me : Mono te) {Q Q' : List PyData → MH → Prop} (k : ∀ x h, Q x h → Q' x h) : ∀ ds acc h, lcL g tt te σ ds acc h Q → lcL g tt te σ ds acc h Q'
  | [], _, _, w => k _ _ w
  | d :: r, acc, h, w => by
    unfold lcL at w ⊢
    split at w
    · refine mt _ _ _ _ (fun b h1 w1 => ?_) w
      cases b with
      | true =>
        refine me _ _ _ _ (fun y h2 w2 => ?_) w1
        split at w2
        · exact lcL_mono mt me k _ _ _ w2
        · exact w2
      | false => exact lcL_mono mt me k _ _ _ w1
    · exact w
structure DTs (X : Cx) (Γ : GI) (ifs : List Expr) (t : DTT) : Prop where
  mono : Mono t
  pts : PTs X ifs (liftB X.K Γ t)
theorem pts_imp {ifs : List Expr} {t t' : TT} (p : PTs X ifs t) (k : ∀ σ H Q, t' σ H Q → t σ H Q) : PTs X ifs t' := by
  cases p with
  | mk r => exact ⟨fun pins s σ H Q I w => r pins s σ H Q I (k σ H Q w)⟩
def dYes : DTT := fun _ h Q => Q true h
theorem dts_nil : DTs X Γ [] dYes := ⟨fun _ _ _ _ k w => k _ _ w, pts_imp pts_nil fun σ H Q ⟨σd, h, rs, rm, w⟩ => w _ H PX.refl rfl rm⟩
theorem dts_one {t : DTT} (h : DT X Γ c t) : DTs X Γ [c] t := ⟨h.mono, pts_one h.pt⟩
/-- what is being made is not to be read -/
def GI.more (Γ : GI) (D : Addr) : GI where
  x := D :: Γ.x
  T := Γ.T
  G := fun _ _ => True
  st := fun _ _ => trivial
theorem fz_upd {Γ : GI} {H : Hp} {h : MH} {D : Addr} {o : HO} : Fz (Γ.more D) (upd H D o) h = Fz (Γ.more D) H h := by
  funext a
  show Fzx (D :: Γ.x) _ h a = Fzx (D :: Γ.x) _ h a
  unfold Fzx
  by_cases q : a ∈ D :: Γ.x
  · rw [if_pos q, if_pos q]
  · rw [if_neg q, if_neg q, upd_ne fun z => q (by rw [z]; exact List.mem_cons_self)]
def undo (H : Hp) (D : Addr) : Hp := fun a => if a = D then none else H a
theorem undo_ne {H : Hp} {D a : Addr} (n : a ≠ D) : undo H D a = H a := if_neg n
theorem fz_undo {Γ : GI} {H : Hp} {h : MH} {D : Addr} : Fz Γ (undo H D) h = Fz (Γ.more D) H h := by
  funext a
  show Fzx Γ.x _ h a = Fzx (D :: Γ.x) _ h a
  unfold Fzx
  by_cases e : a = D
  · subst e
    rw [if_pos (show a ∈ a :: Γ.x from List.mem_cons_self), show undo H a a = none from if_pos rfl]
    by_cases m : a ∈ Γ.x
    · rw [if_pos m]
    · rw [if_neg m]
      split <;> rfl
  · rw [undo_ne e]
    by_cases q : a ∈ Γ.x
    · rw [if_pos q, if_pos (List.mem_cons_of_mem _ q)]
    · rw [if_neg q, if_neg fun z => (List.mem_cons.mp z).elim e q]
theorem upd_undo {H : Hp} {D : Addr} {o : HO} (e : H D = some o) : upd (undo H D) D o = H := by
  funext a
  by_cases q : a = D
  · subst q; rw [upd_same, e]
  · rw [upd_ne q, undo_ne q]
theorem RSt.eqF {K : PySem.W.Frag} {Γ' : GI} {H H' : Hp} {h h' : MH} {σd : DSt} {σ : L2.St} (e : Sub (Fz Γ H h) (Fz Γ' H' h')) (r : RSt K Γ H h σd σ) : RSt K Γ' H' h' σd σ := ⟨r.1, fun i x q => by
  obtain ⟨v, e1, e2⟩ := r.2 i x q
  refine ⟨v, e1, ?_⟩
  cases x with
  | d x => exact dp_up e _ _ e2
  | own a => exact e2⟩
/-- what holds between two turns of a comprehension -/
structure LcInv (K : PySem.W.Frag) (Γ : GI) (H1 : Hp) (h1 : MH) (D : Addr) (σd : DSt) (σ : L2.St) (i : Nat) (H : Hp) (h : MH) (acc : List PyData) : Prop where
  at_ : ∃ va, H D = some (.lst va) ∧ DpAll K (Fz (Γ.more D) H h) va acc
  ex : Sub (Fz Γ H1 h1) (Fz (Γ.more D) H h)
  kx : ∀ a, a ∈ Γ.x → H a = H1 a
  rm : RM K (Γ.more D) H h
  rs : RSt K (Γ.more D) H h σd σ
  len : acc.length ≤ i
theorem lc_data {K : PySem.W.Frag} {g : Tg} {tt : DTT} {te : DTE} {vs : List Nat} (mt : Mono tt) (me : Mono te) (hix : (g.ix.all (fun i => vs.contains i) && !g.isStar) = true) {σ : L2.St} {H H1 : Hp} {σd : DSt} {h h1 : MH} {Q : VK} {ds : List PyData} {J : It} {D : Addr}
    (rs : RSt K Γ H h σd σ) (px : PX Γ H h H1 h1) (rm1 : RM K Γ H1 h1) (gv : Gives K (Fz Γ H1 h1) J ds) (hD : H1 D = none) (hlen : ds.length ≤ sizeLine)
    (w1 : lcL g tt te (wipeD σd vs) ds [] h1 fun ds h' => ∀ ws H' p, PX Γ H h H' h' → DpAll K (Fz Γ H' h') ws ds → RM K Γ H' h' → H' p = none → Q (.ref p) (upd H' p (.lst ws))) :
    ∃ W : Nat → Nat → Hp → Prop, (∃ m, W 0 m (upd H1 D (.lst []))) ∧ ∀ i m H, W i m H →
      (J.stop i H ∧ Q (.ref D) H) ∨ (J.go i H ∧ ∃ Nx : Hp → Prop, (∀ H', Nx H' → ∃ m', m' < m ∧ W (i + 1) m' H') ∧ ∀ x H', J.yld i H x H' → rawT K g x (L2.wipe σ vs) H' fun σ2 H2 => L2.wipe σ2 vs = L2.wipe σ vs ∧ (∃ Γ' : GI, Γ'.T = Γ.T ∧ liftB K Γ' tt σ2 H2 fun b H3 =>
        if b = true then (∃ Γ' : GI, Γ'.T = Γ.T ∧ liftV K Γ' te σ2 H3 fun y H4 => ∃ acc, H4 D = some (.lst acc) ∧ acc.length < sizeLine ∧ Nx (upd H4 D (.lst (acc ++ [y])))) else Nx H3)) := by
  have hsub : ∀ i, i ∈ g.ix → i ∈ vs := fun i hm => by simpa using List.all_eq_true.mp (Bool.and_eq_true_iff.mp hix).1 i hm
  have hns : g.isStar = false := by simpa using (Bool.and_eq_true_iff.mp hix).2
  have dx : D ∉ Γ.x := rm1.notx hD
  refine lc_it gv (g := rawT K g) (tt := fun σ H Q => ∃ Γ' : GI, Γ'.T = Γ.T ∧ liftB K Γ' tt σ H Q) (te := fun σ H Q => ∃ Γ' : GI, Γ'.T = Γ.T ∧ liftV K Γ' te σ H Q) (vs := vs) (σ := σ) (H1 := H1) (D := D) (Qd := fun H => Q (.ref D) H) (fun i H' => ∃ h' acc, LcInv K Γ H1 h1 D (wipeD σd vs) (L2.wipe σ vs) i H' h' acc ∧ lcL g tt te (wipeD σd vs) (ds.drop i) acc h' (fun ds h' => ∀ ws H' p, PX Γ H h H' h' → DpAll K (Fz Γ H' h') ws ds → RM K Γ H' h' → H' p = none → Q (.ref p) (upd H' p (.lst ws)))) ?_ ?_ ?_ ?_
  · have e0 : Sub (Fz Γ H1 h1) (Fz (Γ.more D) (upd H1 D (.lst [])) h1) := fun a o z => by
      obtain ⟨z1, z2, z3, z4⟩ := Fz.to z
      have ne := ne_of_none z1 hD
      exact Fz.ofH (by rw [upd_ne ne]; exact z1) z2 (fun m => (List.mem_cons.mp m).elim ne z3) z4
    refine ⟨h1, [], ⟨⟨[], upd_same, .nil⟩, e0, fun a m => upd_ne fun z => dx (by rw [← z]; exact m), ⟨fun a m e => ?_, trivial, fun a m => ?_, tabs_upd rm1.tb (.inl hD)⟩, RSt.eqF e0 ((rs.up px).wipe vs), Nat.le_refl _⟩, by rw [List.drop_zero]; exact w1⟩
    · exact ro_up (fun u f1 => by rw [upd_ne (ne_of_none f1 hD)]; exact f1) e0 (rm1.ob a m e)
    · rcases List.mem_cons.mp m with z | z
      · subst z; exact ⟨rm1.tracked hD, [], upd_same⟩
      · rw [upd_ne fun q => dx (by rw [← q]; exact z)]
        exact rm1.nx a z
  · rintro i H' _ ⟨h', acc, inv, _⟩ a o e
    exact fz_sub a o (inv.ex a o e)
  · rintro i x H' H2 hi' ⟨h', acc, inv, w2⟩ ⟨_, d, e1, y⟩
    obtain ⟨p2, rm2, rv2⟩ := yd_in inv.ex inv.rm y
    have hdrop : ds.drop i = d :: ds.drop (i + 1) := by
      obtain ⟨hl, hz⟩ := List.getElem?_eq_some_iff.mp e1
      rw [List.drop_eq_getElem_cons hl, hz]
    rw [hdrop] at w2
    unfold lcL at w2
    -- the turn's end: no item more
    have fin : ∀ (h3 : MH) (H3 : Hp), PX (Γ.more D) H' h' H3 h3 → RM K (Γ.more D) H3 h3 → LcInv K Γ H1 h1 D (wipeD σd vs) (L2.wipe σ vs) (i + 1) H3 h3 acc := fun h3 H3 p3 rm3 => by
      obtain ⟨va, a1, a2⟩ := inv.at_
      exact ⟨⟨va, by rw [p3.kx D List.mem_cons_self]; exact a1, dps_up p3.ex _ _ a2⟩, fun a o z => p3.ex a o (inv.ex a o z), fun a m => (p3.kx a (List.mem_cons_of_mem _ m)).trans (inv.kx a m), rm3, inv.rs.up p3, Nat.le_succ_of_le inv.len⟩
    split at w2
    · rename_i σ1 e2
      refine rawT_ok hns rv2 (inv.rs.up p2) e2 fun σr rsr hwp => ⟨by rw [hwp vs hsub, wipe_wipe], Γ.more D, rfl, ?_⟩
      refine lift_mk mt rsr rm2 w2 fun b h3 k H3 px3 rs3 rb rm3 w3 => ?_
      subst rb
      have p3 := p2.trans px3
      cases b with
      | false => exact iteF ⟨h3, acc, fin h3 H3 p3 rm3, w3⟩
      | true =>
        refine iteT ⟨Γ.more D, rfl, ?_⟩
        refine lift_mk me rs3 rm3 w3 fun y h4 yv H4 px4 rs4 ry rm4 w4 => ?_
        split at w4
        · rename_i z h5 e5
          obtain ⟨p5, rm5, rz⟩ := fz1_ok ry rm4 e5
          have inv5 := fin h5 H4 ((p3.trans px4).trans p5) rm5
          obtain ⟨va, a1, a2⟩ := inv5.at_
          have eF : Fz (Γ.more D) (upd H4 D (.lst (va ++ [yv]))) h5 = Fz (Γ.more D) H4 h5 := fz_upd
          have hl : acc.length < sizeLine := by
            have := inv.len
            omega
          refine ⟨va, a1, by rw [dps_len a2]; exact hl, h5, acc ++ [z], ⟨⟨va ++ [yv], upd_same, ?_⟩, ?_, fun a m => ?_, ⟨fun a m e => ?_, trivial, fun a m => ?_, tabs_upd rm5.tb (.inr ⟨_, a1, .inl rfl⟩)⟩, ?_, ?_⟩, w4⟩
          · rw [eF]; exact dps_app a2 (.cons rz .nil)
          · rw [eF]; exact inv5.ex
          · rw [upd_ne fun q => dx (by rw [← q]; exact m)]; exact inv5.kx a m
          · have z := rm5.ob a m e
            have ne : a ≠ D := fun q => by
              have n := (rm5.nx D List.mem_cons_self).1
              rw [← q, e] at n; cases n
            exact ro_up (fun u f1 => by rw [upd_ne ne]; exact f1) (by rw [eF]; exact fun _ _ q => q) z
          · by_cases q : a = D
            · subst q; exact ⟨(rm5.nx a m).1, _, upd_same⟩
            · rw [upd_ne q]
              exact rm5.nx a m
          · exact RSt.eqF (by rw [eF]; exact fun _ _ z => z) inv5.rs
          · rw [List.length_append, List.length_singleton]
            have := inv.len
            omega
        · exact w4.elim
    · exact w2.elim
  · rintro H' ⟨h', acc, inv, w2⟩
    rw [List.drop_length] at w2
    obtain ⟨va, a1, a2⟩ := inv.at_
    have eF : Fz Γ (undo H' D) h' = Fz (Γ.more D) H' h' := fz_undo
    have hpx : PX Γ H1 h1 (undo H' D) h' := ⟨by show Sub _ (Fz Γ (undo H' D) h'); rw [eF]; exact inv.ex, fun a m => by rw [undo_ne fun q => dx (by rw [← q]; exact m)]; exact inv.kx a m⟩
    have r := w2 va (undo H' D) D (px.trans hpx) (by rw [eF]; exact a2) ⟨fun a m e => ?_, Γ.st hpx rm1.g, fun a m => ?_, tabs_but inv.rm.tb fun b o e n => by rw [undo_ne fun z => by rw [z, a1] at e; cases e; exact n (.inl rfl)]; exact e⟩ (if_pos rfl)
    · rw [upd_undo a1] at r
      exact r
    · have z := inv.rm.ob a m e
      have ne : a ≠ D := fun q => by
        have n := (inv.rm.nx D List.mem_cons_self).1
        rw [← q, e] at n; cases n
      exact ro_up (fun u f1 => by rw [undo_ne ne]; exact f1) (by rw [eF]; exact fun _ _ q => q) z
    · rw [undo_ne fun q => dx (by rw [← q]; exact m)]
      exact inv.rm.nx a (List.mem_cons_of_mem _ m)
theorem lc_ok {K : PySem.W.Frag} {w : DTI} {g : Tg} {tt : DTT} {te : DTE} {vs : List Nat} (hw : Mono w) (mt : Mono tt) (me : Mono te) (hix : (g.ix.all (fun i => vs.contains i) && !g.isStar) = true) : ∀ σ H Q, liftF K Γ (fLc w g tt te vs) σ H Q →
    tLc (liftI K Γ w) (rawT K g) (fun σ H Q => ∃ Γ' : GI, Γ'.T = Γ.T ∧ liftB K Γ' tt σ H Q) (fun σ H Q => ∃ Γ' : GI, Γ'.T = Γ.T ∧ liftV K Γ' te σ H Q) vs σ H Q := by
  rintro σ H Q ⟨σd, h, rs, rm, w0⟩
  exact ⟨σd, h, rs, rm, hw _ _ _ _ (fun ds h1 w1 J H1 px rm1 gv D hD => lc_data mt me hix rs px rm1 gv hD w1.1 w1.2) w0⟩
theorem df_lc {elt iter : Expr} {ifs : List Expr} {scope : Scope} {own : List (Str × Nat)} {w : DTI} {g : Tg} {tt : DTT} {te : DTE} (hc : X.calm = true) (hN : X.N.Nodup) (hi : DWk X Γ tg iter w) (ok : BlkOk X.N X.env.scope scope own)
    (hg : ∀ (s : Shared) (H : Hp) (C : Addr) (cl : List (Str × Addr)) (fp : List Addr), DG (X.blk s H scope (compEnvC scope cl C X.env) fp) tg g) (hix : (g.ix.all (fun i => (own.map (·.2)).contains i) && !g.isStar) = true)
    (ht : ∀ (Γ' : GI), Γ'.T = Γ.T → ∀ (s : Shared) (H : Hp) (C : Addr) (cl : List (Str × Addr)) (fp : List Addr), DTs (X.blk s H scope (compEnvC scope cl C X.env) fp) Γ' ifs tt)
    (he : ∀ (Γ' : GI), Γ'.T = Γ.T → ∀ (s : Shared) (H : Hp) (C : Addr) (cl : List (Str × Addr)) (fp : List Addr), DE (X.blk s H scope (compEnvC scope cl C X.env) fp) Γ' elt te) (hs : ∀ x, foldedSetIterable iter X.env x = pure x := by intro _; rfl) :
    DF X Γ (.ListComp elt [⟨tg, iter, ifs, 0⟩] scope pos) (fLc w g tt te (own.map (·.2))) := by
  have mt : Mono tt := (ht Γ rfl ({} : Shared) (fun _ => none) 0 [] []).mono
  have me : Mono te := (he Γ rfl ({} : Shared) (fun _ => none) 0 [] []).mono
  refine ⟨fun σ h Q Q' k w => hi.mono _ _ _ _ (fun ds h1 w1 => ⟨w1.1, lcL_mono mt me k _ _ _ w1.2⟩) w, ?_⟩
  exact pe_imp (pe_lc (pos := pos) (wi := liftI X.K Γ w) (g := rawT X.K g) hc hN hi.pi ok (fun s H C cl fp => (hg s H C cl fp).pg)
    (fun s H C cl fp => ⟨fun pins s' σ H' Q I ⟨Γ', e, q⟩ => (ht Γ' e s H C cl fp).pts.run pins s' σ H' Q I q⟩) (fun s H C cl fp => ⟨fun pins s' σ H' Q I ⟨Γ', e, q⟩ => (he Γ' e s H C cl fp).pe.run pins s' σ H' Q I q⟩) hs) (lc_ok hi.mono mt me hix)
/-- name = [..] on one line, the name a local: td, what is made of the items -/
theorem liftL_dL {K : PySem.W.Frag} {t : DTF} (m : Mono t) : ∀ σ H Q, liftV K Γ (dL t) σ H Q → liftF K Γ t σ H Q := fun σ H Q ⟨σd, h, rs, rm, w⟩ => ⟨σd, h, rs, rm, m _ _ _ _ (fun ds h' q ws H' p px hd rm' n => by
    obtain ⟨p1, r1, v1⟩ := new_list n rm' hd
    exact q _ _ (px.trans p1) v1 r1) w⟩
theorem ds_lc_ {i : Nat} {y : Str} {py : Pos} {elt iter : Expr} {ifs : List Expr} {scope : Scope} {own : List (Str × Nat)} {spos : Pos} {w : DTI} {g : Tg} {tt : DTT} {te td : DTE} (md : Mono td) (up : ∀ σ H Q, liftV X.K Γ td σ H Q → liftF X.K Γ (fLc w g tt te (own.map (·.2))) σ H Q) (hc : X.calm = true) (hN : X.N.Nodup) (hi : DWk X Γ tg iter w) (ok : BlkOk X.N X.env.scope scope own)
    (hg : ∀ (s : Shared) (H : Hp) (C : Addr) (cl : List (Str × Addr)) (fp : List Addr), DG (X.blk s H scope (compEnvC scope cl C X.env) fp) tg g) (hix : (g.ix.all (fun i => (own.map (·.2)).contains i) && !g.isStar) = true)
    (ht : ∀ (Γ' : GI), Γ'.T = Γ.T → ∀ (s : Shared) (H : Hp) (C : Addr) (cl : List (Str × Addr)) (fp : List Addr), DTs (X.blk s H scope (compEnvC scope cl C X.env) fp) Γ' ifs tt)
    (he : ∀ (Γ' : GI), Γ'.T = Γ.T → ∀ (s : Shared) (H : Hp) (C : Addr) (cl : List (Str × Addr)) (fp : List Addr), DE (X.blk s H scope (compEnvC scope cl C X.env) fp) Γ' elt te)
    (hy : X.N[i]? = some y) (hyl : X.env.scope.names.lookup y = some .local) (hsw : swapsWith (.ListComp elt [⟨tg, iter, ifs, 0⟩] scope pos) (some (.Name y py)) spos.line X.env = pure true) (hs : ∀ x, foldedSetIterable iter X.env x = pure x) :
    DS X Γ (.Assign [.Name y py] (.ListComp elt [⟨tg, iter, ifs, 0⟩] scope pos) spos) (dAsg td (.nm i)) := by
  have mt : Mono tt := (ht Γ rfl ({} : Shared) (fun _ => none) 0 [] []).mono
  have me : Mono te := (he Γ rfl ({} : Shared) (fun _ => none) 0 [] []).mono
  refine ⟨mono_asg md, ps_imp (ps_setLc (wi := liftI X.K Γ w) (g := rawT X.K g) (tt := fun σ H Q => ∃ Γ' : GI, Γ'.T = Γ.T ∧ liftB X.K Γ' tt σ H Q) (te := fun σ H Q => ∃ Γ' : GI, Γ'.T = Γ.T ∧ liftV X.K Γ' te σ H Q) hc hN hy hyl hsw hi.pi ok (fun s H C cl fp => (hg s H C cl fp).pg)
    (fun s H C cl fp => ⟨fun pins s' σ H' Q I ⟨Γ', e, q⟩ => (ht Γ' e s H C cl fp).pts.run pins s' σ H' Q I q⟩) (fun s H C cl fp => ⟨fun pins s' σ H' Q I ⟨Γ', e, q⟩ => (he Γ' e s H C cl fp).pe.run pins s' σ H' Q I q⟩) hs) fun D σ H q => ?_⟩
  exact lc_ok hi.mono mt me hix _ _ _ (up _ _ _ (asg_lift (g := .nm i) md D σ H q))
theorem ds_lc (i : Nat) {y : Str} {py : Pos} {elt iter : Expr} {ifs : List Expr} {scope : Scope} {own : List (Str × Nat)} {spos : Pos} {w : DTI} {g : Tg} {tt : DTT} {te : DTE} (hc : X.calm = true) (hN : X.N.Nodup) (hi : DWk X Γ tg iter w) (ok : BlkOk X.N X.env.scope scope own)
    (hg : ∀ (s : Shared) (H : Hp) (C : Addr) (cl : List (Str × Addr)) (fp : List Addr), DG (X.blk s H scope (compEnvC scope cl C X.env) fp) tg g) (hix : (g.ix.all (fun i => (own.map (·.2)).contains i) && !g.isStar) = true)
    (ht : ∀ (Γ' : GI), Γ'.T = Γ.T → ∀ (s : Shared) (H : Hp) (C : Addr) (cl : List (Str × Addr)) (fp : List Addr), DTs (X.blk s H scope (compEnvC scope cl C X.env) fp) Γ' ifs tt)
    (he : ∀ (Γ' : GI), Γ'.T = Γ.T → ∀ (s : Shared) (H : Hp) (C : Addr) (cl : List (Str × Addr)) (fp : List Addr), DE (X.blk s H scope (compEnvC scope cl C X.env) fp) Γ' elt te)
    (hy : X.N[i]? = some y := by rfl) (hyl : X.env.scope.names.lookup y = some .local := by rfl) (hsw : swapsWith (.ListComp elt [⟨tg, iter, ifs, 0⟩] scope pos) (some (.Name y py)) spos.line X.env = pure true := by rfl) (hs : ∀ x, foldedSetIterable iter X.env x = pure x := by intro _; rfl) :
    DS X Γ (.Assign [.Name y py] (.ListComp elt [⟨tg, iter, ifs, 0⟩] scope pos) spos) (dAsg (dL (fLc w g tt te (own.map (·.2)))) (.nm i)) := by
  have m := (df_lc (pos := pos) hc hN hi ok hg hix ht he hs).mono
  exact ds_lc_ (mono_L m) (liftL_dL m) hc hN hi ok hg hix ht he hy hyl hsw hs
end
end DL

namespace DL
open PySem PySem.Spec PyProof.Rows L2
set_option autoImplicit true

abbrev DXK := DExc → MH → Prop
abbrev DXS := DExc → DSt → MH → Prop
abbrev DSp := List SV → MH → DK → DXK → Prop
def liftX (K : PySem.W.Frag) (Γ : GI) (E : DXS) : WX := fun cls d σ H => ∃ x σd h, RSt K Γ H h σd σ ∧ RM K Γ H h ∧ RX K Γ H h x cls d ∧ E x σd h
def noX : DXS := fun _ _ _ => False
theorem takes_no {X : Cx} : Takes X (liftX X.K Γ noX) := takes0.imp fun _ _ _ _ ⟨_, _, _, _, _, _, z⟩ => z
theorem RM.g0 {K : PySem.W.Frag} {H : Hp} {h : MH} (r : RM K Γ H h) : RM K (G0 Γ.x Γ.T) H h := ⟨r.ob, trivial, r.nx, r.tb⟩
theorem RM.back {K : PySem.W.Frag} {H H' : Hp} {h h' : MH} (r : RM K Γ H h) (p : PX Γ H h H' h') (q : RM K (G0 Γ.x Γ.T) H' h') : RM K Γ H' h' := ⟨q.ob, Γ.st p r.g, q.nx, q.tb⟩
def liftSp (K : PySem.W.Frag) (T : List (Addr × Str)) (W : DSp) : Sp := fun vs H Q E => ∃ (xs : List Addr) (ds : List SV) (h : MH), RVs K (G0 xs T) H h ds vs ∧ RM K (G0 xs T) H h ∧
  W ds h (fun r h' => ∀ v H', PXx xs H h H' h' → RV K (G0 xs T) H' h' r v → RM K (G0 xs T) H' h' → Q v H') (fun x h' => ∀ cls d H', PXx xs H h H' h' → RX K (G0 xs T) H' h' x cls d → RM K (G0 xs T) H' h' → E cls d H')
def MonoW (W : DSp) : Prop := ∀ ds h (Q Q' : DK) (E E' : DXK), (∀ x h', Q x h' → Q' x h') → (∀ x h', E x h' → E' x h') → W ds h Q E → W ds h Q' E'
theorem rvs_len {K : PySem.W.Frag} {H : Hp} {h : MH} : ∀ {xs : List SV} {vs : List V}, RVs K Γ H h xs vs → vs.length = xs.length
  | _, _, .nil => rfl
  | _, _, .cons _ t => by rw [List.length_cons, List.length_cons, rvs_len t]
/-- a def keeps its promise, where no repr runs around -/
structure FnG (P : Program) (w : World) (K : PySem.W.Frag) (mg : Str → Option Value) (base : Heap) (T : List (Addr × Str)) (k : Nat) (f : Addr) (fd : FuncData) (ps : List Str) (W : DSp) : Prop where
  len : ∀ ds h Q E, W ds h Q E → ds.length = ps.length
  mono : MonoW W
  run : ∀ (A : Around) (outer : List Env) (s : Shared) (H : Hp) (args : Args) (us : List Value) (vs : List V) (Q : VK) (E : XK), Room k A → A.guards = some [] → Env0 P w K mg base A outer s H → BindsTo s fd args (ps.zip us) → Vals vs us →
    liftSp K T W vs H Q E → codeAny (model P w) A (.call (.ref f) args) (CR (L2.CX P w) outer P w H s Q E) s
theorem FnG.up {P : Program} {w : World} {K : PySem.W.Frag} {mg : Str → Option Value} {base : Heap} {j k : Nat} {f : Addr} {fd : FuncData} {ps : List Str} {W : DSp} (F : FnG P w K mg base T j f fd ps W) (h : j ≤ k) : FnG P w K mg base T k f fd ps W :=
  ⟨F.len, F.mono, fun A outer s H args us vs Q E hr => F.run A outer s H args us vs Q E (hr.mono h)⟩
def dstart (N : List Str) (ds : List SV) : DSt := ds.map some ++ List.replicate (N.length - ds.length) none
theorem rst_start {K : PySem.W.Frag} {H : Hp} {h : MH} {N : List Str} {ds : List SV} {vs : List V} (r : RVs K Γ H h ds vs) : RSt K Γ H h (dstart N ds) (L2.start N vs) := by
  have el := rvs_len r
  refine ⟨by unfold dstart L2.start; simp [el], fun i x e => ?_⟩
  have get : ∀ {ds : List SV} {vs : List V}, RVs K Γ H h ds vs → ∀ (i : Nat), ds[i]? = some x → ∃ v, vs[i]? = some v ∧ RV K Γ H h x v := by
    intro ds vs r
    induction r with
    | nil => intro i e; simp at e
    | cons r1 _ ih =>
      intro i e
      cases i with
      | zero => simp at e; subst e; exact ⟨_, rfl, r1⟩
      | succ i => exact ih i (by simpa using e)
  unfold dstart at e
  by_cases hi : i < ds.length
  · rw [List.getElem?_append_left (by simpa using hi), List.getElem?_map] at e
    cases q : ds[i]? with
    | none => rw [q] at e; cases e
    | some y =>
      rw [q] at e
      cases e
      obtain ⟨v, e1, e2⟩ := get r i q
      refine ⟨v, ?_, e2⟩
      unfold L2.start
      rw [List.getElem?_append_left (by rw [List.length_map, el]; exact hi), List.getElem?_map, e1]
      rfl
  · rw [List.getElem?_append_right (by simpa using hi), List.getElem?_replicate] at e
    split at e <;> cases e
/-- behind a call: what was there ahead of it, and what it hands back -/
def SV.isOwn (r : SV) (b : Addr) : Bool := match r with
  | .own a => Nat.beq a b
  | .d _ => false
def restr (h0 h : MH) (r : SV) : MH := fun b => if (h0 b).isSome || r.isOwn b then h b else none
def restrX (h0 h : MH) : MH := fun b => if (h0 b).isSome then h b else none
theorem restr_sub {h0 h : MH} {r : SV} : ∀ a o, restr h0 h r a = some o → h a = some o := fun a o e => by
  unfold restr at e
  split at e
  · exact e
  · cases e
theorem restrX_sub {h0 h : MH} : ∀ a o, restrX h0 h a = some o → h a = some o := fun a o e => by
  unfold restrX at e
  split at e
  · exact e
  · cases e
/-- the wish at a def's end, told of its body -/
def dEnd (_ : MH) (Q : DK) : DEnds where
  nx := fun _ h' => ∃ h2, (∀ a o, h2 a = some o → h' a = some o) ∧ Q (.d .none) h2
  rt := fun r h' => ∃ h2, (∀ a o, h2 a = some o → h' a = some o) ∧ Q r h2
  bk := fun _ _ => False
  ct := fun _ _ => False
def fnW (N ps : List Str) (t : DXS → DTS) : DSp := fun ds h Q E => ds.length = ps.length ∧ ∃ (E0 : DXS) (D0 : DEnds), (∀ x σ h', E0 x σ h' → ∃ h2, (∀ a o, h2 a = some o → h' a = some o) ∧ E x h2) ∧ DEnds.Le D0 (dEnd h Q) ∧ t E0 D0 (dstart N ds) h
theorem fnW_mk {N ps : List Str} {t : DXS → DTS} {ds : List SV} {h : MH} {Q : DK} {E : DXK} (hl : ds.length = ps.length) (ht : t (fun x _ h' => E x (restrX h h')) (dEnd h Q) (dstart N ds) h) : fnW N ps t ds h Q E := ⟨hl, _, _, fun _ _ _ z => ⟨_, restrX_sub, z⟩, le_refl, ht⟩
theorem fnW_mkA {N ps : List Str} {t : DXS → DTS} {ds : List SV} {h : MH} {Q : DK} {E : DXK} (hl : ds.length = ps.length) (ht : t (fun x _ h' => E x h') (dEnd h Q) (dstart N ds) h) : fnW N ps t ds h Q E := ⟨hl, _, _, fun _ _ h' z => ⟨h', fun _ _ q => q, z⟩, le_refl, ht⟩
theorem fnW_mono {N ps : List Str} {t : DXS → DTS} : MonoW (fnW N ps t) := fun ds h Q Q' E E' k kx ⟨hl, E0, D0, hE, hD, ht⟩ =>
  ⟨hl, E0, D0, fun x σ h' z => let ⟨h2, a, b⟩ := hE x σ h' z; ⟨h2, a, kx _ _ b⟩, ⟨fun σ h' z => let ⟨h2, a, b⟩ := hD.nx σ h' z; ⟨h2, a, k _ _ b⟩, fun x h' z => let ⟨h2, a, b⟩ := hD.rt x h' z; ⟨h2, a, k _ _ b⟩, fun σ h' z => hD.bk σ h' z, fun σ h' z => hD.ct σ h' z⟩, ht⟩
section
variable {P : Program} {w : World} {K : PySem.W.Frag} {mg : Str → Option Value} {base : Heap}
/-- THE RULE for a def -/
theorem fn_g {T : List (Addr × Str)} {x qual : Str} {st : Stmt} {f : Addr} {fd : FuncData} {N ps : List Str} {k : Nat} {t : DXS → DTS} (F : Fun K x qual st f fd) (S : FnScope N ps (defScope st))
    (body : ∀ (cdv : Value) (A : Around) (outer : List Env) (s : Shared) (H : Hp) (E' : XK) (Γ : GI) (Ed : DXS), fd.code = cdv → Γ.T = T → Room k (A.deeper (envOfC qual (defScope st) s.heap.objs.size f cdv)) → A.guards = some [] →
      Takes (cxOf (L2.CX P w) P w K mg base N qual (defScope st) f cdv A outer s H E') (liftX K Γ Ed) → DSs (cxOf (L2.CX P w) P w K mg base N qual (defScope st) f cdv A outer s H E') Γ (defBody st) (t Ed)) :
    FnG P w K mg base T (k + 1) f fd ps (fnW N ps t) := by
  obtain ⟨oc, od, kV, doc, pm, an, cdv, ct, osl, rfl, lk, hcd⟩ := F.ex
  refine ⟨fun ds h Q E w' => w'.1, fnW_mono, ?_⟩
  rintro A outer s H args us vs Q E room gd env0 bind rel ⟨xs, ds, h, rv, rm, hlen, E0, D0, hE, hD, hw⟩
  have vlen : vs.length = ps.length := by rw [rvs_len rv]; exact hlen
  have keepB : ∀ b o, base.get? b = some o → s.heap.get? b = some o := fun b o z => (env0.bs b o z).1
  have inK : K.In s.heap := env0.mod.kin.keeps keepB
  have noLim : s.heap.NoLimit := env0.mod.nolimit.keeps keepB
  have kinds : ∀ y ∈ ps.zip us, (defScope st).names.lookup y.1 = some .local ∨ ((defScope st).names.lookup y.1 = some .cell ∧ ((cellsFrom (s.heap.objs.size + 1) (defScope st).names []).lookup y.1).isSome = true) := by
    rintro ⟨n, u⟩ hy
    exact (S.par n (List.of_mem_zip hy).1).imp id fun q => ⟨q, PySem.W.cellsFrom_some _ _ _ (.inl q)⟩
  refine codeAny_call_function room.depth (inK _ _ lk) rfl S.co S.gen rfl (PySem.W.codeRec_of inK hcd) (bind _ _ _ _ ?_)
  refine wpAny_newFunctionEnv_cells S.kind kinds fun env henv s1 made => ?_
  subst henv
  refine ⟨noLim.keeps made.toInCall.keep, codeAny_func ?_⟩
  have I := inv_start (CX := L2.CX P w) (E := E) S room.hd env0 vlen rel made
  -- the deep reading
  let Γ : GI := ⟨xs, T, fun H' h' => PXx xs H h H' h', fun p q => q.trans p⟩
  have rmΓ : RM K Γ H h := ⟨rm.ob, PXx.refl, rm.nx, rm.tb⟩
  have rsΓ : RSt K Γ H h (dstart N ds) (L2.start N vs) := rst_start (Γ := Γ) rv
  have tk : Takes (cxOf (L2.CX P w) P w K mg base N qual (defScope st) f cdv A outer s H E) (liftX K Γ E0) := (takes_of (X := cxOf (L2.CX P w) P w K mg base N qual (defScope st) f cdv A outer s H E) rfl rfl rfl rfl).imp fun cls d σ H' z => by
    obtain ⟨x, σd, h', _, rm', rx, e⟩ := z
    obtain ⟨h2, hs2, e2⟩ := hE _ _ _ e
    have dpx : PXx xs H' h' H' h2 := drop_px (Γ := Γ) hs2
    exact e2 cls d H' (rm'.g.trans dpx) (rx_up (Γ := G0 xs T) dpx rx) (drop_rm (Γ := Γ) hs2 rm').g0
  have der := body cdv A outer s H E Γ E0 rfl rfl (room.deeper _) gd tk
  refine wpAny_mono (der.ps.run [] s1 (L2.start N vs) H { nx := fun _ H' => Q .non H', rt := Q } I ⟨dstart N ds, h, rsΓ, rmΓ, der.mono _ _ _ _ ?_ hw⟩) (fun fl s' hs => ?_) fun e s' hs => hs
  · have out : ∀ (r : SV) (h' : MH) (v : V) (H' : Hp), (∃ h2, (∀ a o, h2 a = some o → h' a = some o) ∧ ∀ v H', PXx xs H h H' h2 → RV K (G0 xs T) H' h2 r v → RM K (G0 xs T) H' h2 → Q v H') → PX Γ H h H' h' → RV K Γ H' h' r v → RM K Γ H' h' → Q v H' := fun r h' v H' ⟨h2, hs2, z⟩ p rr rm' => by
      have dpx : PXx xs H' h' H' h2 := drop_px (Γ := Γ) hs2
      exact z v H' (PXx.trans p dpx) (RV.up (Γ := G0 xs T) dpx rr) (drop_rm (Γ := Γ) hs2 rm').g0
    exact ⟨fun σd h' z σ H' p _ r => out (.d .none) h' .non H' (hD.nx σd h' z) p rv_non r, fun r h' z v H' p rr r' => out r h' v H' (hD.rt r h' z) p rr r', fun _ _ z => (hD.bk _ _ z).elim, fun _ _ z => (hD.ct _ _ z).elim⟩
  · have done : ∀ {σ' : L2.St} {H' : Hp} {v : V} {u : Value}, Inv (cxOf (L2.CX P w) P w K mg base N qual (defScope st) f cdv A outer s H E) [] σ' H' s' → RelV v u → Q v H' → CE outer P w H s Q u s' :=
      fun {σ' H' v u} J r q => ⟨v, H', J.os, J.bare, J.base, J.hok, r, q⟩
    match fl, hs with
    | .ret u, ⟨v, σ', H', J, r, q⟩ => exact done J r q
    | .next, ⟨σ', H', J, q⟩ => exact done (v := V.non) (u := Value.none) J rfl q
    | .brk, ⟨_, _, _, q⟩ => exact q.elim
    | .cont, ⟨_, _, _, q⟩ => exact q.elim
end

def dCall (E : DXS) (W : DSp) (t : DTA) : DTE := fun σ h Q => t σ h fun xs h1 => W xs h1 Q fun x h2 => E x σ h2
section
variable {X : Cx} {k : Nat} {f : Addr} {fd : FuncData} {ps : List Str} {W : DSp} {E : DXS} {x : Str} {p pos : Pos} {e : Expr} {es : List Expr} {t : DTA}
theorem run_g {pins : List (Addr × Obj)} {σ : L2.St} {H : Hp} {s : Shared} {Q : VK} {us : List Value} {vs : List V} {xs : List SV} {σd : DSt} {h : MH} {C : DK} (F : FnG X.prog X.w X.K X.mg X.base Γ.T k f fd ps W) (hr : Room k X.A) (hg : X.A.guards = some []) (hb : Binds X.K fd ps []) (tk : Takes X (liftX X.K Γ E))
    (I : Inv X pins σ H s) (r : Vals vs us) (rv : RVs X.K Γ H h xs vs) (rs : RSt X.K Γ H h σd σ) (rm : RM X.K Γ H h) (hw : W xs h C fun x h2 => E x σd h2) (k' : ∀ z h' v H', PX Γ H h H' h' → RV X.K Γ H' h' z v → RM X.K Γ H' h' → C z h' → Q v H') :
    wpAny (model X.prog X.w) X.A (call (.ref f) us) (EP X pins σ Q) X.xe s := by
  have el : (us ++ []).length = ps.length := by rw [List.append_nil, ← r.length, rvs_len rv]; exact F.len _ _ _ _ hw
  have bi := hb s us I.kIn el
  rw [List.append_nil] at bi
  have hsp : liftSp X.K Γ.T W vs H Q (fun cls d H' => liftX X.K Γ E cls d σ H') := ⟨Γ.x, xs, h, rv, rm.g0, F.mono _ _ _ _ _ _ (fun z h' c v H' px rz rm' => k' z h' v H' px rz (rm.back px rm') c)
    (fun x h' ee cls d H' px rx rm' => ⟨x, σd, h', rs.up px, rm.back px rm', rx, ee⟩) hw⟩
  refine wpAny_call (codeAny_mono (F.run X.A X.stack s H ⟨us, []⟩ us vs Q (fun cls d H' => liftX X.K Γ E cls d σ H') hr hg I.env0 bi r hsp) fun res s' hq => ?_)
  match res, hq with
  | .error ex, hq => exact tk ex s' (XE.of_call I (fun _ _ _ z => z) hq)
  | .ok (.ret u), hq => exact I.after hq
  | .ok .next, hq => exact False.elim hq
  | .ok .brk, hq => exact False.elim hq
  | .ok .cont, hq => exact False.elim hq
theorem mono_call {t : DTA} (m : Mono t) (mw : MonoW W) : Mono (dCall E W t) := fun σ h Q Q' k w => m _ _ _ _ (fun xs h1 w1 => mw _ _ _ _ _ _ k (fun _ _ z => z) w1) w
theorem de_call {T : List (Addr × Str)} (hΓ : Γ.T = T) (F : FnG X.prog X.w X.K X.mg X.base T k f fd ps W) (hr : Room k X.A) (hgd : X.A.guards = some []) (hg : Gl X x) (hm : X.mg x = some (.ref f)) (hk : PySem.W.keepIn X.K (.ref f) = true) (hb : Binds X.K fd ps []) (tk : Takes X (liftX X.K Γ E))
    (ha : DA X Γ (e :: es) t) (hdb : (x == ("__debug__" : Str)) = false := by decide) (he : starEach (e :: es) X.env = (false, eval e X.env) :: starEach es X.env := by rfl) (hpl : (backTo pos (starEach es X.env)).any (·.1) = false := by rfl) :
    DE X Γ (.Call (.Name x p) (e :: es) [] pos) (dCall E W t) := by
  subst hΓ
  refine ⟨mono_call ha.mono F.mono, ⟨fun pins s σ H Q I w => ?_⟩⟩
  obtain ⟨σd, h, rs, rm, w⟩ := w
  refine wpAny_Call_Name_kw (ld_glob I hg hm ?_ hdb)
  refine PySem.W.callWith_K (h₀ := X.base) I.ok.mod.kin hk (thn (ha.pa.run pos pins s σ H (fun vs H1 => ∃ xs h1, PX Γ H h H1 h1 ∧ RVs X.K Γ H1 h1 xs vs ∧ RSt X.K Γ H1 h1 σd σ ∧ RM X.K Γ H1 h1 ∧ W xs h1 (fun z h' => ∀ v H', PX Γ H h H' h' → RV X.K Γ H' h' z v → RM X.K Γ H' h' → Q v H') fun x h2 => E x σd h2) I
    (lift_mk ha.mono rs rm w fun xs h1 vs H1 px rs1 rvs rm1 w1 => ⟨xs, h1, px, rvs, rs1, rm1, w1⟩)) ?_) he hpl
  rintro us s1 ⟨vs, H1, I1, r, xs, h1, px, rvs, rs1, rm1, w1⟩
  exact ⟨I1.kIn, run_g F hr hgd hb tk I1 r rvs rs1 rm1 w1 fun z h' v H' px' rz rm' c => c v H' (px.trans px') rz rm'⟩
end
end DL

namespace DL
open PySem PySem.Spec PyProof.Rows L2
set_option autoImplicit true

/-- repr of none, ints, truths, texts, lists, tuples of them, whose text is short enough -/
def reprOk (d : PyData) : Prop := d.showable = true ∧ d.hasDict = false ∧ d.depth ≤ 32 ∧ d.shown.length ≤ sizeLine
def rdRepr : DRA := fun xs h Q => match xs with
  | [.d d] => reprOk d ∧ Q (.d (.str d.shown)) h
  | _ => False
def rReprV (K : PySem.W.Frag) : List V → Hp → VK → Prop := fun vs H Q => ∃ v d, vs = [v] ∧ Dp K H v d ∧ reprOk d ∧ Q (.str d.shown) H
theorem cr_repr {X : Cx} (hg : X.A.guards = some []) (hu : X.A.units + 64 < cLine) : CallR X (.builtin "repr") (rReprV X.K) := by
  intro pins s σ H vs us Q I r h
  obtain ⟨v, d, rfl, dp, ⟨h1, h2, h3, h4⟩, q⟩ := h
  obtain ⟨u, rfl, ru⟩ := vals1 r
  have one : ∀ x : Str, d.shown = x → EP X pins σ Q (.str x s.toks) { s with toks := s.toks + 1 } := fun x e => ⟨.str x, H, I.tok _, ⟨_, rfl⟩, by rw [← e]; exact q⟩
  have many : ∀ a as, u = .ref a → Reads s.heap (.ref a) d as → wpAny (model X.prog X.w) X.A (call (.builtin "repr") [.ref a]) (EP X pins σ Q) X.xe s := fun a as e rd =>
    repr_of_reads' rd h1 (PyData.noDict_hsm h2) hg (by omega) (fun _ _ e => e) (fun h' u' tk hk => ⟨.str d.shown, H, I.kept hk, ⟨_, rfl⟩, q⟩) h4
  obtain ⟨as, rd⟩ := Dp.reads I d v u dp ru
  cases dp with
  | non =>
    obtain rfl : u = Value.none := ru
    exact P.repr_of_none (one _ (by simp only [PyData.shown]))
  | bl b =>
    obtain rfl : u = Value.bool b := ru
    exact P.repr_of_bool (one _ (by simp only [PyData.shown]))
  | int i =>
    obtain ⟨t, rfl⟩ := ru
    exact P.repr_of_int (by simpa [PyData.showable] using h1) (one _ (by simp only [PyData.shown]))
  | str x =>
    obtain ⟨t, rfl⟩ := ru
    simp only [PyData.shown] at h4
    exact P.repr_of_str (one _ (by simp only [PyData.shown])) h4
  | lst _ _ => obtain rfl : u = Value.ref _ := ru; exact many _ _ rfl rd
  | tup _ _ => obtain rfl : u = Value.ref _ := ru; exact many _ _ rfl rd
theorem la_repr {K : PySem.W.Frag} : LRA K Γ rdRepr (rReprV K) := by
  refine ⟨fun xs h Q Q' k w => ?_, fun xs vs H h C Q r rm w k => ?_⟩
  · unfold rdRepr at w ⊢
    split at w
    · exact ⟨w.1, k _ _ w.2⟩
    · exact w
  · unfold rdRepr at w
    split at w
    · obtain ⟨v, rfl, rv⟩ := rvs1 r
      exact ⟨v, _, rfl, dp_up fz_sub _ _ rv, w.1, k _ _ _ H PX.refl rv_str rm w.2⟩
    · exact w.elim

def lexL : List Int → List Int → Bool
  | x :: xs, y :: ys => if x = y then lexL xs ys else decide (x < y)
  | [], _ :: _ => true
  | _, [] => false
def intOf : PyData → Option Int
  | .int i => some i
  | _ => none
/-- what is compared: an int; the first m things of a tuple, ints -/
def keyD (m : Nat) : PyData → List Int
  | .int i => [i]
  | .tuple xs => (xs.take m).filterMap intOf
  | _ => []
def leL (a b : List Int) : Bool := !lexL b a
def leD (m : Nat) (a b : PyData) : Bool := leL (keyD m a) (keyD m b)
theorem lex_asym : ∀ a b : List Int, lexL a b = true → lexL b a = false
  | [], [], h => by simp [lexL] at h
  | [], _ :: _, _ => by simp [lexL]
  | _ :: _, [], h => by simp [lexL] at h
  | x :: xs, y :: ys, h => by
    unfold lexL at h ⊢
    by_cases e : x = y
    · subst e
      rw [if_pos rfl] at h ⊢
      exact lex_asym xs ys h
    · rw [if_neg e] at h
      rw [if_neg fun z => e z.symm]
      have a := of_decide_eq_true h
      exact decide_eq_false (by omega)
theorem lex_trans : ∀ a b c : List Int, lexL b a = false → lexL c b = false → lexL c a = false
  | [], b, c, h1, h2 => by
    cases b with
    | nil => exact h2
    | cons y ys =>
      cases c with
      | nil => simp [lexL] at h2
      | cons z zs => simp [lexL]
  | x :: xs, b, c, h1, h2 => by
    cases b with
    | nil => simp [lexL] at h1
    | cons y ys =>
      cases c with
      | nil => simp [lexL] at h2
      | cons z zs =>
        unfold lexL at h1 h2 ⊢
        by_cases e1 : y = x
        · subst e1
          rw [if_pos rfl] at h1
          by_cases e2 : z = y
          · subst e2
            rw [if_pos rfl] at h2 ⊢
            exact lex_trans xs ys zs h1 h2
          · rw [if_neg e2] at h2 ⊢
            exact h2
        · rw [if_neg e1] at h1
          have a := of_decide_eq_false h1
          by_cases e2 : z = y
          · subst e2
            rw [if_neg e1]
            exact h1
          · rw [if_neg e2] at h2
            have b := of_decide_eq_false h2
            rw [if_neg (by omega)]
            exact decide_eq_false (by omega)
theorem leL_total : PySem.W.TotalLe leL := by
  refine ⟨fun a b c h1 h2 => ?_, fun a b => ?_⟩
  · unfold leL at h1 h2 ⊢
    rw [Bool.not_eq_true'] at h1 h2 ⊢
    exact lex_trans a b c h1 h2
  · unfold leL
    cases q : lexL b a with
    | false => exact .inl rfl
    | true => rw [lex_asym b a q]; exact .inr rfl
theorem total_by {α β : Type} {le : β → β → Bool} (f : α → β) (h : PySem.W.TotalLe le) : PySem.W.TotalLe (fun a b => le (f a) (f b)) := ⟨fun _ _ _ => h.trans _ _ _, fun _ _ => h.total _ _⟩
theorem ints_uniq : ∀ {is js r r' : List Value} {ns ms : List Int}, IntsAre is ns → IntsAre js ms → ns.length = ms.length → is ++ r = js ++ r' → ns = ms ∧ r = r'
  | _, _, _, _, _, _, .nil, .nil, _, e => ⟨rfl, e⟩
  | _, _, _, _, _, _, .nil, .cons _ _ _, h, _ => by simp at h
  | _, _, _, _, _, _, .cons _ _ _, .nil, h, _ => by simp at h
  | _, _, _, _, _, _, .cons n t a, .cons m u b, h, e => by
    simp only [List.cons_append, List.cons.injEq, Value.int.injEq] at e
    obtain ⟨e1, e2⟩ := ints_uniq a b (by simpa using h) e.2
    exact ⟨by rw [e.1.1, e1], e2⟩
theorem HdAt.uniq {h : Heap} {v : Value} {ns ms : List Int} {r r' : List Value} (a : HdAt h v ns r) (b : HdAt h v ms r') (hl : ns.length = ms.length) : ns = ms ∧ r = r' := by
  obtain ⟨p, o, n, is, rfl, h1, _, h3, h4⟩ := a
  obtain ⟨p', o', n', js, e, g1, _, g3, g4⟩ := b
  cases e
  rw [h1] at g1
  cases g1
  rw [h3] at g3
  injection g3 with g3 _
  exact ints_uniq h4 g4 hl (by simpa using g3)
open Classical in
noncomputable def hdKey (h : Heap) (m : Nat) (v : Value) : List Int := if q : ∃ ns rest, ns.length = m ∧ HdAt h v ns rest then q.choose else []
theorem hdKey_eq {h : Heap} {m : Nat} {v : Value} {ns : List Int} {r : List Value} (hl : ns.length = m) (a : HdAt h v ns r) : hdKey h m v = ns := by
  have q : ∃ ns rest, ns.length = m ∧ HdAt h v ns rest := ⟨ns, r, hl, a⟩
  unfold hdKey
  rw [dif_pos q]
  obtain ⟨r', e, b⟩ := q.choose_spec
  exact (b.uniq a (e.trans hl.symm)).1
section
variable {prog : Program} {w : World} {A : Around} {E : Value → Shared → Prop} {s : Shared}
theorem lex_same {b : Bool} {Q : Bool → Shared → Prop} : ∀ (l : List Value) (i : Nat), Q false s → PySem.W.KatLex prog w A b false Q (l.zip l) i s
  | [], _, h => PySem.W.kat_nil h
  | v :: l, i, h => PySem.W.kat_cons (SeqAt.EqAt.same v prog w _ _ (PySem.W.kat_yes (lex_same l (i + 1) h)))
theorem lex_go {b : Bool} {Q : Bool → Shared → Prop} {fin : Bool} {r r' : List Value} : ∀ {is js : List Value} {ns ms : List Int} (i : Nat), IntsAre is ns → IntsAre js ms → ns.length = ms.length → (ns = ms → r = r' ∧ fin = false) → Q (lexL ns ms) s →
    PySem.W.KatLex prog w A b fin Q ((is ++ r).zip (js ++ r')) i s
  | _, _, _, _, i, .nil, .nil, _, he, h => by
    obtain ⟨e, e2⟩ := he rfl
    subst e e2
    exact lex_same r i (by simpa [lexL] using h)
  | _, _, _, _, _, .nil, .cons _ _ _, h, _, _ => by simp at h
  | _, _, _, _, _, .cons _ _ _, .nil, h, _, _ => by simp at h
  | _, _, _, _, i, .cons p t ha, .cons q u hb, hl, he, h => by
    refine PySem.W.kat_cons (SeqAt.EqAt.int_int p t q u prog w _ _ ?_)
    unfold lexL at h
    by_cases e : p = q
    · subst e
      rw [if_pos rfl] at h
      have e1 : decide (p = p) = true := decide_eq_true rfl
      refine PySem.W.kat_go (fun _ => PySem.W.kat_yes (lex_go (i + 1) ha hb (by simpa using hl) (fun z => he (by rw [z])) h)) (fun z => ?_)
      simp at z
    · rw [if_neg e] at h
      refine PySem.W.kat_go (fun z => ?_) (fun _ => PySem.W.kat_no ?_)
      · simp at z
        exact absurd z e
      · cases hb' : (b && i == 0) with
        | true => exact oneLt_int h
        | false => exact PySem.W.kat_one _ _ (PyProof.Rows.lt_int (Q := PySem.W.BoolBack Q) h)
/-- what is asked of the values sorted -/
def HdsOk (h : Heap) (m : Nat) (vs : List Value) : Prop := (∀ v ∈ vs, ∃ ns r, ns.length = m ∧ HdAt h v ns r) ∧ ∀ v ∈ vs, ∀ u ∈ vs, ∀ ns r r', ns.length = m → HdAt h v ns r → HdAt h u ns r' → r = r'
noncomputable def ltV (h : Heap) (m : Nat) (v u : Value) : Bool := lexL (hdKey h m v) (hdKey h m u)
theorem ltV_swo (h : Heap) (m : Nat) : SrtO.Swo (ltV h m) := ⟨fun x y => lex_asym _ _, fun x y z => lex_trans _ _ _⟩
theorem hds_cmp {h₀ : Heap} {m : Nat} {vs : List Value} (ok : HdsOk h₀ m vs) (k : ∀ b o, h₀.get? b = some o → o.cls = .type "tuple" → s.heap.get? b = some o) :
    SrtO.Cmp prog w A s (tuples' true) (fun p => p.1 ∈ vs) (SrtO.lt2 (ltV h₀ m)) := by
  intro p q hm hm'
  obtain ⟨ns, r, l1, h1⟩ := ok.1 _ hm
  obtain ⟨ms, r', l2, h2⟩ := ok.1 _ hm'
  have eq := ok.2 _ hm _ hm'
  show wpAny (model prog w) A (keyLt' (tuples' true) p.1 q.1) (fun x s' => s' = s ∧ x = lexL (hdKey h₀ m p.1) (hdKey h₀ m q.1)) (fun _ _ => False) s
  rw [hdKey_eq l1 h1, hdKey_eq l2 h2]
  have e' : ns = ms → r = r' := fun e => by subst e; exact eq _ _ _ l1 h1 h2
  obtain ⟨a, o, n, is, ea, g1, g2, g3, g4⟩ := h1.keeps k
  obtain ⟨a', o', n', js, ea', f1, f2, f3, f4⟩ := h2.keeps k
  rw [ea, ea']
  refine PySem.W.kat_lt g1 g3 f1 f3 ?_
  refine lex_go 0 g4 f4 (l1.trans l2.symm) (fun e => ⟨e' e, ?_⟩) ⟨rfl, rfl⟩
  have z1 := g4.length
  have z2 := f4.length
  rw [List.size_toArray, List.size_toArray, List.length_append, List.length_append, ← e' e, z1, z2, l1, l2]
  exact decide_eq_false (Nat.lt_irrefl _)
theorem hds_firsts {h : Heap} {m : Nat} (hm : 1 ≤ m) : ∀ vs : List Value, (∀ v ∈ vs, ∃ ns r, ns.length = m ∧ HdAt h v ns r) → ∃ fs, PySem.W.KatTups h vs fs ∧ fs.length = vs.length ∧ ∀ f, f ∈ fs → ∃ n t, f = Value.int n t
  | [], _ => ⟨[], PySem.W.KatTups.nil, rfl, fun f hf => by simp at hf⟩
  | v :: vs, x => by
    obtain ⟨fs, k, hl, hi⟩ := hds_firsts hm vs fun u hu => x u (List.mem_cons_of_mem _ hu)
    obtain ⟨ns, r, l1, a, o, n, is, rfl, g1, g2, g3, g4⟩ := x v List.mem_cons_self
    cases g4 with
    | nil => simp at l1; omega
    | @cons p t is ns g4 =>
      refine ⟨Value.int p t :: fs, PySem.W.KatTups.cons g1 g2 g3 (by simp) k, by simp [hl], fun f hf => ?_⟩
      rcases List.mem_cons.mp hf with rfl | hf
      · exact ⟨p, t, rfl⟩
      · exact hi f hf
theorem hds_sortable {a : Addr} {h₀ : Heap} {m : Nat} {vs : List Value} (hm : 1 ≤ m) (h0 : 0 < vs.length) (ok : HdsOk h₀ m vs) (k : ∀ b o, h₀.get? b = some o → o.cls = .type "tuple" → b ≠ a ∧ s.heap.get? b = some o) : SrtO.SortableO prog w A s a vs (ltV h₀ m) := by
  intro h' keep
  have k' : ∀ b o, h₀.get? b = some o → o.cls = .type "tuple" → h'.get? b = some o := fun b o e c => keep b o (k b o e c).1 (k b o e c).2
  obtain ⟨fs, h1, h2, h3⟩ := hds_firsts (h := h') hm vs fun v hv => by
    obtain ⟨ns, r, l, x⟩ := ok.1 v hv
    exact ⟨ns, r, l, x.keeps k'⟩
  refine ⟨tuples' true, fun Q E hq => ?_, hds_cmp ok k'⟩
  refine PySem.W.kat_kind (T := .type "int") h1 (by omega) (fun f hm => ?_) (by rfl) ?_
  · obtain ⟨x, t, rfl⟩ := h3 f hm
    exact PySem.W.Looks.now
  · have e : (Value.type "int" != Value.type "tuple") = true := by first | decide +kernel | rfl | decide
    rw [e]
    exact hq
theorem stb_sort {h : Heap} {m : Nat} {out vs : List Value} (h1 : SrtO.Srtd (ltV h m) out) (h2 : SrtO.Stb (ltV h m) out vs) : out = vs.mergeSort (fun v u => leL (hdKey h m v) (hdKey h m u)) := by
  refine PySem.W.sort_unique (total_by (hdKey h m) leL_total) (h1.imp fun {x y} z => ?_) fun c => ?_
  · show leL (hdKey h m x) (hdKey h m y) = true
    unfold leL
    have z' : lexL (hdKey h m y) (hdKey h m x) = false := z
    rw [z']
    rfl
  · have e := h2.cls c
    have ef : SrtO.eqv (ltV h m) c = PySem.W.sameRank (fun v u => leL (hdKey h m v) (hdKey h m u)) c := by
      funext a
      unfold SrtO.eqv PySem.W.sameRank leL ltV
      rw [Bool.and_comm]
    rw [ef] at e
    exact e
end
/-- tuples that begin with m ints; ones that begin alike hold nothing more -/
def tupOk (m : Nat) (ds : List PyData) : Prop := 1 ≤ m ∧ (∀ d ∈ ds, ∃ (ns : List Int) (r : List PyData), d = .tuple (ns.map PyData.int ++ r) ∧ ns.length = m) ∧ (ds.Pairwise fun d e => ∀ (ns : List Int) (r r' : List PyData), ns.length = m → d = .tuple (ns.map PyData.int ++ r) → e = .tuple (ns.map PyData.int ++ r') → r = [] ∧ r' = [])
def rSortT (K : PySem.W.Frag) : List V → Hp → VK → Prop := fun vs H Q => ∃ (a : Addr) (xs : List V) (ds : List PyData) (m : Nat) (R : V → PyData → Prop), vs = [V.ref a] ∧ SqL K H a xs ∧ PySem.W.EachIs R xs ds ∧ (∀ v d, R v d → Dp K H v d) ∧ tupOk m ds ∧
  ∀ (out : List V) (p : Addr), PySem.W.EachIs R out (ds.mergeSort (leD m)) → H p = none → Q (.ref p) (upd H p (.lst out))
theorem each_comp {R : V → PyData → Prop} : ∀ {xs : List V} {its : List Value} {ds : List PyData}, Vals xs its → PySem.W.EachIs R xs ds → PySem.W.EachIs (fun u d => ∃ v, RelV v u ∧ R v d) its ds
  | _, _, _, .nil, .nil => .nil
  | _, _, _, .cons h1 h2, .cons g1 g2 => .cons ⟨_, h1, g1⟩ (each_comp h2 g2)
theorem each_split {R : V → PyData → Prop} : ∀ {its : List Value} {ds : List PyData}, PySem.W.EachIs (fun u d => ∃ v, RelV v u ∧ R v d) its ds → ∃ xs, Vals xs its ∧ PySem.W.EachIs R xs ds
  | _, _, .nil => ⟨[], .nil, .nil⟩
  | _, _, .cons ⟨v, h1, h2⟩ t => by
    obtain ⟨xs, a, b⟩ := each_split t
    exact ⟨v :: xs, .cons h1 a, .cons h2 b⟩
theorem filt_ints : ∀ (ns : List Int), (ns.map PyData.int).filterMap intOf = ns
  | [] => rfl
  | n :: ns => by
    show (PyData.int n :: ns.map PyData.int).filterMap intOf = n :: ns
    rw [List.filterMap_cons]
    show n :: (ns.map PyData.int).filterMap intOf = n :: ns
    rw [filt_ints ns]
theorem keyD_hd {m : Nat} {ns : List Int} {r : List PyData} (hl : ns.length = m) : keyD m (.tuple (ns.map PyData.int ++ r)) = ns := by
  show (List.take m (ns.map PyData.int ++ r)).filterMap intOf = ns
  rw [List.take_append_of_le_length (by rw [List.length_map]; omega), List.take_of_length_le (by rw [List.length_map]; omega), filt_ints]
theorem vals_app {X : Cx} {H : Hp} : ∀ {ns : List Int} {r : List PyData} {xs : List V} {us : List Value}, DpAll X.K H xs (ns.map PyData.int ++ r) → Vals xs us → ∃ is rest xr, us = is ++ rest ∧ IntsAre is ns ∧ Vals xr rest ∧ DpAll X.K H xr r
  | [], r, xs, us, h, v => ⟨[], us, xs, rfl, .nil, v, h⟩
  | n :: ns, r, xs, us, h, v => by
    have h' : DpAll X.K H xs (PyData.int n :: (ns.map PyData.int ++ r)) := h
    cases h' with
    | cons h1 h2 =>
      cases h1
      cases v with
      | cons v1 v2 =>
        obtain ⟨t, rfl⟩ := v1
        obtain ⟨is, rest, xr, e, i, a, b⟩ := vals_app h2 v2
        exact ⟨.int n t :: is, rest, xr, by rw [e]; rfl, .cons n t i, a, b⟩
theorem cr_sortT {X : Cx} : CallR X (.builtin "sorted") (rSortT X.K) := by
  intro pins s σ H vs us Q I r h
  obtain ⟨a, xs, ds, m, R, rfl, hs, he, hR, ⟨hm, ok1, ok2⟩, q⟩ := h
  obtain ⟨its, rv, hl, hz⟩ := I.list hs
  rw [Vals.ref1 r]
  have ec := each_comp rv he
  -- each value by its place
  have hd : ∀ u d, (∃ v, RelV v u ∧ R v d) → ∀ (ns : List Int) (r : List PyData), d = .tuple (ns.map PyData.int ++ r) → ∃ rest xr, HdAt s.heap u ns rest ∧ Vals xr rest ∧ DpAll X.K H xr r := by
    rintro u d ⟨v, h1, h2⟩ ns r rfl
    have dp := hR _ _ h2
    cases dp with
    | tup hq ha =>
      obtain rfl : u = Value.ref _ := h1
      obtain ⟨ts, rt, ⟨o, ho, hc, n, hdt⟩, _⟩ := I.tuple hq
      obtain ⟨is, rest, xr, e, i, b1, b2⟩ := vals_app ha rt
      subst e
      exact ⟨rest, xr, ⟨_, o, n, is, rfl, ho, hc, hdt, i⟩, b1, b2⟩
  have hlen := ec.length
  have zat : ∀ v ∈ its, ∃ i : Nat, ∃ d, its[i]? = some v ∧ ds[i]? = some d ∧ ∃ x, RelV x v ∧ R x d := fun v hv => by
    obtain ⟨i, hi, e⟩ := List.getElem_of_mem hv
    have hi2 : i < ds.length := by omega
    have hz : (v, ds[i]) ∈ its.zip ds := List.mem_of_getElem? (i := i) (by rw [List.getElem?_zip_eq_some]; exact ⟨by rw [List.getElem?_eq_getElem hi, e], List.getElem?_eq_getElem hi2⟩)
    exact ⟨i, ds[i], by rw [List.getElem?_eq_getElem hi, e], List.getElem?_eq_getElem hi2, ec.zip _ hz⟩
  have ok : HdsOk s.heap m its := by
    refine ⟨fun v hv => ?_, fun v hv u hu ns r r' l h1 h2 => ?_⟩
    · obtain ⟨i, d, _, e2, x⟩ := zat v hv
      obtain ⟨ns, r, e, l⟩ := ok1 d (List.mem_of_getElem? e2)
      obtain ⟨rest, _, h1, _, _⟩ := hd v d x ns r e
      exact ⟨ns, rest, l, h1⟩
    · obtain ⟨i, d, a1, a2, x⟩ := zat v hv
      obtain ⟨j, e, b1, b2, y⟩ := zat u hu
      by_cases ij : i = j
      · subst ij
        rw [a1] at b1
        cases b1
        exact (h1.uniq h2 rfl).2
      · obtain ⟨ns1, r1, c1, c2⟩ := ok1 d (List.mem_of_getElem? a2)
        obtain ⟨ns2, r2, c3, c4⟩ := ok1 e (List.mem_of_getElem? b2)
        obtain ⟨t1, xr1, d1, d2, d3⟩ := hd v d x ns1 r1 c1
        obtain ⟨t2, xr2, d4, d5, d6⟩ := hd u e y ns2 r2 c3
        obtain ⟨f1, f2⟩ := d1.uniq h1 (c2.trans l.symm)
        obtain ⟨f3, f4⟩ := d4.uniq h2 (c4.trans l.symm)
        subst f1 f2 f3 f4
        have no : r1 = [] ∧ r2 = [] := by
          have hi : i < ds.length := (List.getElem?_eq_some_iff.mp a2).1
          have hj : j < ds.length := (List.getElem?_eq_some_iff.mp b2).1
          have ei : ds[i] = d := (List.getElem?_eq_some_iff.mp a2).2
          have ej : ds[j] = e := (List.getElem?_eq_some_iff.mp b2).2
          rcases Nat.lt_or_gt_of_ne ij with z | z
          · exact List.pairwise_iff_getElem.mp ok2 i j hi hj z _ r1 r2 l (ei.trans c1) (ej.trans c3)
          · exact (List.pairwise_iff_getElem.mp ok2 j i hj hi z _ r2 r1 l (ej.trans c3) (ei.trans c1)).symm
        obtain ⟨z1, z2⟩ := no
        subst z1 z2
        cases d3
        cases d6
        cases d2
        cases d5
        rfl
  refine SrtO.sorted_ord (ltV_swo s.heap m) hl.isList (by rw [← rv.length]; exact hz) (fun h2 h₁ a' ha kk => ?_) fun out h1 h2 => ?_
  · refine hds_sortable (s := { s with heap := h₁ }) hm (by omega) ok fun b o e c => ⟨?_, (kk b o e).2⟩
    exact (kk b o e).1
  · have eo := stb_sort h1 h2
    have each : PySem.W.EachIs (fun u d => ∃ v, RelV v u ∧ R v d) out (ds.mergeSort (leD m)) := by
      rw [eo]
      refine PySem.W.sort_each ec fun p hp q hq => ?_
      have key : ∀ p ∈ its.zip ds, hdKey s.heap m p.1 = keyD m p.2 := fun p hp => by
        obtain ⟨ns, r, e, l⟩ := ok1 p.2 (List.of_mem_zip hp).2
        obtain ⟨rest, _, g1, _, _⟩ := hd p.1 p.2 (ec.zip p hp) ns r e
        rw [hdKey_eq l g1, e, keyD_hd l]
      show leL (hdKey s.heap m p.1) (hdKey s.heap m q.1) = leL (keyD m p.2) (keyD m q.2)
      rw [key p hp, key q hq]
    obtain ⟨zs, v1, v2⟩ := each_split each
    obtain ⟨ep, he'⟩ := PyProof.Rows.sortedAll_at s.heap its out.toArray
    have hlen2 : zs.length ≤ sizeLine := by
      rw [v2.length, List.length_mergeSort, ← he.length]
      exact hz
    exact ⟨.ref _, upd H (s.heap.objs.size + 1) (.lst zs), I.laid (t' := s.toks) (fun _ _ => PyProof.Rows.sortedAll_old) (Nat.le_succ _) ⟨hlen2, out, ep, v1, he'⟩, rfl, q _ _ v2 (I.hok.fresh (Nat.le_succ _))⟩

theorem dps_each {K : PySem.W.Frag} {H : Hp} : ∀ {vs : List V} {ds : List PyData}, DpAll K H vs ds → PySem.W.EachIs (Dp K H) vs ds
  | _, _, .nil => .nil
  | _, _, .cons a b => .cons a (dps_each b)
theorem each_dps {K : PySem.W.Frag} {H : Hp} : ∀ {vs : List V} {ds : List PyData}, PySem.W.EachIs (Dp K H) vs ds → DpAll K H vs ds
  | _, _, .nil => .nil
  | _, _, .cons a b => .cons a (each_dps b)
theorem ints_get {K : PySem.W.Frag} {H : Hp} : ∀ {vs : List V} {ds : List PyData}, DpAll K H vs ds → (∀ d ∈ ds, ∃ i, d = PyData.int i) → ∃ ns : List Int, vs = ns.map V.int ∧ ds = ns.map PyData.int
  | _, _, .nil, _ => ⟨[], rfl, rfl⟩
  | _, _, .cons a b, h => by
    obtain ⟨i, rfl⟩ := h _ List.mem_cons_self
    obtain ⟨ns, e1, e2⟩ := ints_get b fun d hd => h d (List.mem_cons_of_mem _ hd)
    cases a
    exact ⟨i :: ns, by rw [e1]; rfl, by rw [e2]; rfl⟩
theorem sort_ints {ns ms : List Int} (hp : ms.Perm ns) (hs : ms.Pairwise (· ≤ ·)) : ms.map PyData.int = (ns.map PyData.int).mergeSort (leD 1) := by
  have e1 : ∀ a b : Int, leD 1 (.int a) (.int b) = decide (a ≤ b) := fun a b => by
    unfold leD leL keyD lexL
    by_cases e : b = a
    · subst e
      rw [if_pos rfl]
      simp [lexL]
    · rw [if_neg e]
      by_cases z : b < a
      · rw [decide_eq_true z, decide_eq_false (by omega)]
        rfl
      · rw [decide_eq_false z, decide_eq_true (by omega)]
        rfl
  have tot : PySem.W.TotalLe (fun a b : Int => decide (a ≤ b)) := ⟨fun a b c h1 h2 => by
    have := of_decide_eq_true h1
    have := of_decide_eq_true h2
    exact decide_eq_true (by omega), fun a b => by
    by_cases z : a ≤ b
    · exact .inl (decide_eq_true z)
    · exact .inr (decide_eq_true (by omega))⟩
  rw [← PySem.W.sort_maps (r := fun a b : Int => decide (a ≤ b)) PyData.int (fun a _ b _ => (e1 a b).symm)]
  congr 1
  have s2 := PySem.W.sort_pairwise tot ns
  have p2 : ms.Perm (ns.mergeSort fun a b => decide (a ≤ b)) := hp.trans (List.mergeSort_perm _ _).symm
  exact List.Perm.eq_of_pairwise (le := fun a b : Int => a ≤ b) (fun a b _ _ h1 h2 => by omega) hs (s2.imp fun {a b} z => of_decide_eq_true z) p2
def rdSorted : DRF := fun xs h Q => match xs with
  | [x] => match asL h x with
    | some ds => ((∀ d ∈ ds, ∃ i, d = PyData.int i) ∧ Q (ds.mergeSort (leD 1)) h) ∨ ∃ m, tupOk m ds ∧ Q (ds.mergeSort (leD m)) h
    | none => False
  | _ => False
def rSortA (K : PySem.W.Frag) : List V → Hp → VK → Prop := fun vs H Q => rSortedI K vs H Q ∨ rSortT K vs H Q
theorem cr_sort {X : Cx} : CallR X (.builtin "sorted") (rSortA X.K) := CallR.or cr_sortedI cr_sortT
theorem lf_sort {K : PySem.W.Frag} : LRF K Γ rdSorted (rSortA K) := by
  refine ⟨fun xs h Q Q' k w => ?_, fun xs vs H h C Q r rm w k => ?_⟩
  · unfold rdSorted at w ⊢
    split at w
    · split at w
      · exact w.imp (fun z => ⟨z.1, k _ _ z.2⟩) fun ⟨m, z1, z2⟩ => ⟨m, z1, k _ _ z2⟩
      · exact w
    · exact w
  · unfold rdSorted at w
    split at w
    · obtain ⟨v, rfl, rv⟩ := rvs1 r
      split at w
      · rename_i ds e1
        obtain ⟨a, vs, rfl, s1, d1⟩ := asL_ok rv rm e1
        rcases w with ⟨hi, w⟩ | ⟨m, ok, w⟩
        · obtain ⟨ns, rfl, rfl⟩ := ints_get d1 hi
          refine .inl ⟨a, ns, rfl, s1, fun ns' p hp hs hq => ?_⟩
          rw [← sort_ints hp hs] at w
          exact k _ _ _ H p PX.refl (dps_ints ns') rm w hq
        · exact .inr ⟨a, vs, ds, m, Dp K (Fz Γ H h), rfl, s1, dps_each d1, fun v d z => dp_up fz_sub _ _ z, ok, fun out p ho hq => k _ _ _ H p PX.refl (each_dps ho) rm w hq⟩
      · exact w.elim
    · exact w.elim
end DL

namespace DL
open PySem PySem.Spec PyProof.Rows L2
set_option autoImplicit true

section
variable {prog : Program} {w : World} {A : Around} {s : Shared}
end

def rowOf : PyData → Int
  | .tuple (_ :: .int r :: _) => r
  | _ => 0
def placeOf : PyData → Int
  | .tuple (.int p :: _) => p
  | _ => 0
def byOk (ds : List PyData) : Prop := ∀ d ∈ ds, ∃ p r rest, d = .tuple (.int p :: .int r :: rest)
def leBy (a b : PyData) : Bool := leL [rowOf a, placeOf a] [rowOf b, placeOf b]
def fBy (t : DTA) : DTF := fun σ h Q => t σ h fun xs h1 => match xs with
  | [x] => match asQ h1 x with
    | some ds => byOk ds ∧ Q (ds.mergeSort leBy) h1
    | none => False
  | _ => False
section
variable {prog : Program} {w : World} {A : Around} {EX : Value → Shared → Prop} {s : Shared} {β : Type} {vs : List Value} {bs : List β} {R : Value → β → Prop}
open PySem.W in
end
theorem extn_px {K : PySem.W.Frag} {H H' : Hp} {h : MH} (e : LamX.ExtN H H') (rm : RM K Γ H h) : PX Γ H h H' h :=
  ⟨fun b o q => by
    obtain ⟨q1, q2, q3, q4⟩ := Fz.to q
    exact Fz.ofH (e _ _ q1 q4) q2 q3 q4, fun b hb => by
    obtain ⟨_, xs, z⟩ := rm.nx b hb
    rw [z]
    exact e _ _ z fun ps y => by cases y⟩
theorem extn_rm {K : PySem.W.Frag} {H H' : Hp} {h : MH} (e : LamX.ExtN H H') (t : LamX.Tabs Γ.T H') (rm : RM K Γ H h) : RM K Γ H' h := by
  have px := extn_px e rm
  refine ⟨fun b m q => ?_, Γ.st px rm.g, fun b hb => ?_, t⟩
  · obtain ⟨u, e1, e2⟩ := ro_at (rm.ob b m q)
    exact ro_of (e _ _ e1 (fun ps y => by subst y; exact not_plain_tbl (rof_plain e2))) (rof_up px.ex e2)
  · obtain ⟨z1, xs, z2⟩ := rm.nx b hb
    exact ⟨z1, xs, e _ _ z2 (fun ps y => by cases y)⟩
/-- what a lambda asks of its def's code object -/
def TabOf (base : Heap) (mg : Str → Option Value) (T : List (Addr × Str)) (cdv : Value) (qual : Str) : Prop := ∃ c P, cdv = .ref c ∧ LamX.TabB base mg c P ∧ (P, qual ++ "<lambda>") ∈ T ∧ ∀ p ∈ T, p.1 = P → p.2 = qual ++ "<lambda>"
end DL

namespace DL
open PySem PySem.Spec PyProof.Rows L2
set_option autoImplicit true

def FnC (P : Program) (w : World) (K : PySem.W.Frag) (mg : Str → Option Value) (base : Heap) (T : List (Addr × Str)) (k : Nat) (x : Str) (ps : List Str) (W : DSp) : Prop :=
  ∃ f fd, FnG P w K mg base T k f fd ps W ∧ PySem.W.keepIn K (.ref f) = true ∧ Binds K fd ps [] ∧ mg x = some (.ref f)
theorem FnC.up {P : Program} {w : World} {K : PySem.W.Frag} {mg : Str → Option Value} {base : Heap} {T : List (Addr × Str)} {j k : Nat} {x : Str} {ps : List Str} {W : DSp} (F : FnC P w K mg base T j x ps W) (h : j ≤ k) : FnC P w K mg base T k x ps W := by
  obtain ⟨f, fd, a, b⟩ := F
  exact ⟨f, fd, a.up h, b⟩
section
variable {X : Cx} {k : Nat} {ps : List Str} {W : DSp} {E : DXS} {x : Str} {p pos : Pos} {e : Expr} {es : List Expr} {t : DTA} {T : List (Addr × Str)}
theorem de_fn (hΓ : Γ.T = T) (F : FnC X.prog X.w X.K X.mg X.base T k x ps W) (hr : Room k X.A) (hgd : X.A.guards = some []) (tk : Takes X (liftX X.K Γ E)) (ha : DA X Γ (e :: es) t) (hg : Gl X x := by rfl) (hdb : (x == ("__debug__" : Str)) = false := by decide)
    (he : starEach (e :: es) X.env = (false, eval e X.env) :: starEach es X.env := by rfl) (hpl : (backTo pos (starEach es X.env)).any (·.1) = false := by rfl) : DE X Γ (.Call (.Name x p) (e :: es) [] pos) (dCall E W t) := by
  obtain ⟨f, fd, a, b, c, d⟩ := F
  exact de_call hΓ a hr hgd hg d b c tk ha hdb he hpl
end
theorem fn_c {P : Program} {w : World} {K : PySem.W.Frag} {mg : Str → Option Value} {base : Heap} {T : List (Addr × Str)} {k : Nat} {x : Str} {ps : List Str} {W : DSp} {st : Stmt} {f : Addr} {fd : FuncData} (F : Fun K x x st f fd) (G : FnG P w K mg base T k f fd ps W) (hm : mg x = some (.ref f))
    (hb : ∀ (kV doc pm : Value) (an : Option Addr) (cdv ct : Value) (us : List Value), us.length = ps.length → bindArgs (PySem.W.fnOf x x (defArgs st) (defBody st) (defScope st) .none kV doc pm an cdv ct) ⟨us, []⟩ = pure (ps.zip us)) : FnC P w K mg base T k x ps W :=
  ⟨f, fd, G, F.kp, F.binds hb, hm⟩
theorem room1 {k : Nat} {A : Around} (r : Room k A) : A.units + 1 < cLine := hu_of r
theorem room64 {k : Nat} {A : Around} (r : Room k A) : A.units + 64 < cLine := by
  have := r.un
  omega
theorem room65 {k : Nat} {A : Around} (r : Room k A) : A.units + 65 < cLine := by
  have := r.un
  omega
end DL

namespace DL
open PySem PySem.Spec PyProof.Rows L2
set_option autoImplicit true

theorem hpTop_tab {K : PySem.W.Frag} {ts : List Addr} {a x : Addr} {o : Obj} {u : HO} (m : x ∈ ts) : hpTop K ts a o u x = some (.tbl #[]) := if_pos m
section
variable {P : Program} {w : World} {K : PySem.W.Frag} {mg mb : Str → Option Value} {cs : List (Addr × Addr)} {t : Shared} {a : Addr} {vs : List Value} {ns : List Int}
theorem TopOk.noTab (G : TopOk K mg mb cs t a vs ns) : a ∉ cs.map (·.2) := fun m => by
  have z := (G.isTab m).1
  rw [G.scr] at z
  have z' := congrArg Obj.data (Option.some.inj z)
  cases z'
theorem TopOk.keepNs (G : TopOk K mg mb cs t a vs ns) {x : Addr} {m : Str → Option Value} (h : t.heap.Ns x m) : (hidT t.heap (topHp K cs a vs ns)).Ns x m := by
  obtain ⟨o, es, n, e, d, r⟩ := h
  refine ⟨o, es, n, hidT_get e (G.free e (fun us k z => ?_) fun z => ?_), d, r⟩
  · rw [d] at z; cases z
  · rw [d] at z; cases z
theorem TopOk.kinT (G : TopOk K mg mb cs t a vs ns) : K.In (hidT t.heap (topHp K cs a vs ns)) := fun x o e => hidT_get (G.kin x o e) (by
  cases q : topHp K cs a vs ns x with
  | none => rfl
  | some u =>
    rcases hpTop_cases q with ⟨m, _⟩ | ⟨_, ea, en, _⟩
    · rw [(G.isTab m).2] at e; cases e
    · rw [ea, en] at e; cases e)
theorem TopOk.hok (G : TopOk K mg mb cs t a vs ns) : HOk P w (topHp K cs a vs ns) t.heap := fun x u q => by
  rcases hpTop_cases q with ⟨m, e⟩ | ⟨_, ea, _, e⟩
  · subst e
    exact (G.isTab m).1
  · subst e ea
    exact ⟨G.scr, by rw [List.length_map]; exact G.len, vs, _, L2.vals_ints G.int, G.scr⟩
theorem TopOk.sq (G : TopOk K mg mb cs t a vs ns) : SqL K (topHp K cs a vs ns) a (ns.map V.int) := by
  cases q : K.lookup a with
  | none => exact .inl (.inr ⟨_, (if_neg G.noTab).trans (if_pos ⟨rfl, by rw [q]; rfl⟩)⟩)
  | some o =>
    have e := G.kin a o q
    rw [G.scr] at e
    cases e
    exact .inr ⟨_, vs.toArray, _, q, rfl, rfl, rfl, by rw [List.size_toArray, G.int.length]; exact G.len, by simpa using L2.vals_ints G.int⟩
theorem TopOk.tabB (G : TopOk K mg mb cs t a vs ns) : ∀ c ∈ cs, LamX.TabB (hidT t.heap (topHp K cs a vs ns)) mg c.1 c.2 := fun c hc => by
  have tc := G.tab c hc
  constructor
  · obtain ⟨o, us, file, tf, flags, tg, inF, text, tt, e1, r1, r2, r3, rr⟩ := G.cod c hc
    refine ⟨o, us, file, tf, flags, tg, inF, text, tt, hidT_get e1 (G.free e1 (fun vs n z => ?_) fun z => ?_), r1, r2, r3, rr⟩
    · rw [r2] at z; cases z
    · rw [r2] at z
      cases z
      simp at r3
  · obtain ⟨m, o, b1, b2, b3, b4, b5, b6⟩ := G.mod
    refine ⟨m, o, b1, b2, fun q => ?_, fun q => ?_, hidT_get b3 (G.free b3 (fun us k z => ?_) fun z => ?_), b4, b5, b6⟩
    · obtain ⟨o', es, n, e, hd, _⟩ := G.glo
      rw [q, e] at b3
      cases b3
      rw [hd] at b6
      cases b6
    · rw [q, tc] at b3
      cases b3
      cases b6
    · rw [b6] at z; cases z
    · rw [b6] at z; cases z
  · intro z
    obtain ⟨o', es, n, e, hd, _⟩ := G.glo
    rw [z, tc] at e
    cases e
    cases hd
theorem TopOk.env0 (G : TopOk K mg mb cs t a vs ns) : Env0 P w K mg (hidT t.heap (topHp K cs a vs ns)) callerA [] t (topHp K cs a vs ns) := by
  have hM : L2.Mod K mg (hidT t.heap (topHp K cs a vs ns)) := ⟨G.kinT, G.keepNs G.glo, ⟨mb, G.keepNs G.blt, G.bltX⟩, let ⟨mc, h1, h2⟩ := G.lim; ⟨mc, G.keepNs h1, h2⟩⟩
  exact ⟨rfl, hM, fun b o e => of_hidT e, Nat.le_of_eq (hidT_size _ _), trivial, fun b hb => (List.not_mem_nil hb).elim, G.hok, .of_eq G.gen⟩
/-- a def that keeps its promise lets the law through -/
theorem top_call {k : Nat} {fa : Addr} {fd : FuncData} {x : Str} {W : DSp} {T : List (Addr × Str)} (G : TopOk K mg mb cs t a vs ns) (hr : Room k callerA) (hT : ∀ p ∈ T, p.1 ∈ cs.map (·.2))
    (F : FnG P w K mg (hidT t.heap (topHp K cs a vs ns)) T k fa fd [x] W) (hb : BindsTo t fd ⟨[.ref a], []⟩ [(x, .ref a)]) (hw : W [.d (.list (ns.map PyData.int))] (fun _ => none) (fun r _ => r = .d (.bool true)) fun _ _ => False) :
    codeAny (model P w) callerA (.call (.ref fa) ⟨[.ref a], []⟩) (fun r s' => r = .ok (.ret (.bool true)) ∧ OldK t.heap s'.heap ∧ s'.os = t.os ∧ AllBare s'.gens) t := by
  have sq0 : SqL K (Fzx [] (topHp K cs a vs ns) fun _ => none) a (ns.map V.int) := by
    rcases G.sq with (z | ⟨o, z⟩) | z
    · exact .inl (.inl (Fz.of z rfl (by simp)))
    · exact .inl (.inr ⟨o, Fz.of z rfl (by simp)⟩)
    · exact .inr z
  have rm0 : RM K (G0 [] T) (topHp K cs a vs ns) (fun _ => none) := ⟨(fun _ _ z => by cases z), trivial, fun _ m => (List.not_mem_nil m).elim, fun p hp => LamX.TabS.nil (hpTop_tab (hT p hp))⟩
  have sp : liftSp K T W [.ref a] (topHp K cs a vs ns) (fun v _ => v = .bl true) (fun _ _ _ => False) := by
    refine ⟨[], [.d (.list (ns.map PyData.int))], fun _ => none, .cons (show Dp K _ _ _ from .lst sq0 (dps_ints ns)) .nil, rm0, F.mono _ _ _ _ _ _ (fun r h' e v H' _ rv _ => ?_) (fun _ _ z => z.elim) hw⟩
    subst e
    have rv' : Dp K _ v (.bool true) := rv
    cases rv'
    rfl
  refine codeAny_mono (F.run callerA [] t _ ⟨[.ref a], []⟩ [.ref a] [.ref a] _ _ hr rfl G.env0 hb (.cons rfl .nil) sp) fun r s' h => ?_
  have nox : ∀ e, ¬ L2.CX P w [] (topHp K cs a vs ns) t (fun _ _ _ => False) e s' := fun e z => by
    obtain ⟨_, _, _, _, _, _, _, _, _, _, _, _, z⟩ := z
    exact z
  cases r with
  | error e => exact (nox e h).elim
  | ok fl => cases fl with
    | next => exact False.elim h
    | brk => exact False.elim h
    | cont => exact False.elim h
    | ret u =>
      obtain ⟨v, H', os, bare, un, hok', rv, q⟩ := h
      have q' : v = .bl true := q
      subst q'
      obtain rfl : u = Value.bool true := rv
      have stay : ∀ x o, x ∉ cs.map (·.2) → t.heap.get? x = some o → s'.heap.get? x = some o := fun x o nx e => by
        cases q : topHp K cs a vs ns x with
        | none => exact un.keep x o e q (List.not_mem_nil) (by simp)
        | some u =>
          rcases hpTop_cases q with ⟨m, _⟩ | ⟨_, ea, _, eu⟩
          · exact absurd m nx
          · subst eu
            obtain ⟨e2, _⟩ := hok' x _ (un.frzs x _ _ q)
            rw [ea, G.scr] at e
            cases e
            exact e2
      have more : ∀ c ∈ cs, ∃ zs : Array Value, s'.heap.get? c.2 = some { cls := .none, data := .fields zs } := fun c hc => by
        obtain ⟨zs, z⟩ := un.tbls c.2 #[] (hpTop_tab (List.mem_map_of_mem hc))
        exact ⟨_, hok' c.2 _ z⟩
      refine ⟨rfl, ⟨fun x o e => ?_, fun x o e => ?_⟩, os, bare⟩
      · by_cases m : x ∈ cs.map (·.2)
        · obtain ⟨c, hc, rfl⟩ := List.mem_map.mp m
          obtain ⟨zs, z⟩ := more c hc
          rw [G.tab c hc] at e
          cases e
          exact .inr (.inl ⟨((G.cod c hc).tab (G.tab c hc)).isCodeTable, rfl, #[], zs, rfl, by rw [Array.empty_append]; exact z⟩)
        · exact .inl (stay x o m e)
      · by_cases m : x ∈ cs.map (·.2)
        · obtain ⟨c, hc, rfl⟩ := List.mem_map.mp m
          obtain ⟨zs, z⟩ := more c hc
          exact ⟨_, z⟩
        · exact ⟨o, stay x o m e⟩
end
end DL

namespace DL
open PySem PySem.Spec PyProof.Rows L2
set_option autoImplicit true
theorem fun_of {K : PySem.W.Frag} {x : Str} {st : Stmt} {f : Addr} {fd : FuncData} (F : FunD K x x (defArgs st) (defBody st) (defScope st) [] [] f fd) : Fun K x x st f fd := by
  obtain ⟨oc, od, dV, kV, doc, pm, an, cdv, ct, osl, rfl, lk, hcd, hD, hK⟩ := F.ex
  rcases hD with ⟨_, rfl⟩ | ⟨e, _⟩
  · exact ⟨⟨oc, od, kV, doc, pm, an, cdv, ct, osl, rfl, lk, hcd⟩, F.kp⟩
  · exact absurd rfl e
/-- a def's code object and its table, as the head tells them -/
theorem code_of {K : PySem.W.Frag} {x : Str} {st : Stmt} {fd : FuncData} (F : Fun K x x st (He.fAd K (x, none)) fd) : fd.code = .ref (He.codeOf K (x, none)) := by
  obtain ⟨oc, od, kV, doc, pm, an, cdv, ct, osl, rfl, lk, hcd⟩ := F.ex
  obtain ⟨c, e⟩ := He.codeIn_ref hcd
  rw [He.codeOf_eq (c := c) lk e]
  exact e
abbrev tabsT (K : PySem.W.Frag) (tf : List He.Defn) (nm : He.Defn → Str) : List (Addr × Str) := tf.map fun p => ((He.cT K p).2, nm p)
theorem tabOf_one {K : PySem.W.Frag} {base : Heap} {mg : Str → Option Value} {x : Str} {st : Stmt} {fd : FuncData} {q : Str} (F : Fun K x x st (He.fAd K (x, none)) fd) (h : ∀ c ∈ [He.cT K (x, none)], LamX.TabB base mg c.1 c.2) : TabOf base mg [((He.cT K (x, none)).2, q ++ "<lambda>")] fd.code q :=
  ⟨He.codeOf K (x, none), (He.cT K (x, none)).2, code_of F, h _ List.mem_cons_self, List.mem_cons_self, fun p hp _ => by rw [List.mem_singleton.mp hp]⟩
/-- THE LAW'S WALK: F tells, at the head's facts, the law's promise -/
theorem walk_g {l : PySem.W.OpenLaw} {n m k : Nat} {q : Program} {loose : List Str} {XP : (Str → Option Value) → Heap → Prop} {d : DefRec} {x : Str} {fas : List He.Fa} {fns : List He.DefD} {tf : List He.Defn} {nm : He.Defn → Str} {ex : PySem.W.Frag → Bool} {W : DSp}
    (hn : l.most = some n) (hn2 : n ≤ sizeLine) (hdf : d.params.defaults = []) (hr : Room k callerA)
    (F : ∀ (w : World) (mg : Str → Option Value) (fa : Addr) (h : Heap) (K : PySem.W.Frag), K.In h → h.Ns mainGlobals mg → mg d.name = some (.ref fa) → He.SaysX fas fns [] tf ex w h K →
      ∃ fd : FuncData, (∀ (s : Shared) (u : Value), BindsTo s fd ⟨[u], []⟩ [(x, u)]) ∧ ∀ base : Heap, K.In base → base.Ns mainGlobals mg → (∀ c ∈ tf.map (He.cT K), LamX.TabB base mg c.1 c.2) → FnG l.prog w K mg base (tabsT K tf nm) k fa fd [x] W)
    (hw : ∀ ns : List Int, ns.length ≤ n → (∀ z ∈ ns, Builtin.Int.intBits z ≤ 1048576) → W [.d (.list (ns.map PyData.int))] (fun _ => none) (fun r _ => r = .d (.bool true)) fun _ _ => False) :
    PySem.W.WalkO q loose XP (He.hookX m fas fns [] tf ex).says l.row.toRowW d [] (fun f vs => PySem.call f vs) := by
  refine Att.attach_callB hn hdf fun w s₀ t mg mb fa o pm cd doc a vs ns G Y ho hd hcd hmg hobj hints hlen hbits hg => ?_
  obtain ⟨K, KX, S⟩ := Y
  obtain ⟨fd, hb, hF⟩ := F w mg fa _ K KX G.T.g hmg S
  have tok : TopOk K mg mb (tf.map (He.cT K)) t a vs ns := ⟨KX, G.T.g, G.T.b, G.T.builtins, G.T.nolimit, hg, fun c hc => by
    obtain ⟨p, hp, rfl⟩ := List.mem_map.mp hc
    exact S.empty p hp, fun c hc => by
    obtain ⟨p, hp, rfl⟩ := List.mem_map.mp hc
    exact S.out p hp, fun c hc => by
    obtain ⟨p, hp, rfl⟩ := List.mem_map.mp hc
    exact PySem.W.codeHd_of_K KX (S.hd p hp), G.T.bmain, hobj, hints, Nat.le_trans hlen hn2⟩
  refine top_call tok hr (fun p hp => ?_) (hF _ tok.kinT (tok.keepNs G.T.g) tok.tabB) (hb _ _) (hw ns hlen hbits)
  obtain ⟨c, hc, rfl⟩ := List.mem_map.mp hp
  exact List.mem_map.mpr ⟨He.cT K c, List.mem_map_of_mem hc, rfl⟩
end DL

namespace DL
open PySem PySem.Spec PyProof.Rows L2
set_option autoImplicit true

def dOk : Nat → PyData → Bool
  | _, .none => true
  | _, .bool _ => true
  | _, .int _ => true
  | _, .str x => PySem.PyData.strOk x
  | n + 1, .list xs => xs.all (dOk n)
  | n + 1, .tuple xs => xs.all (dOk n)
  | 0, .list _ => false
  | 0, .tuple _ => false
  | _, .dict _ => false
theorem canLayAll_of {xs : List PyData} (h : ∀ x ∈ xs, x.canLay0 = true) : PyData.canLayAll0 xs = true := by
  induction xs with
  | nil => rfl
  | cons x xs ih =>
    unfold PyData.canLayAll0
    rw [h x List.mem_cons_self, ih fun y hy => h y (List.mem_cons_of_mem _ hy)]
    rfl
theorem depthAll_of {n : Nat} {xs : List PyData} (h : ∀ x ∈ xs, x.depth ≤ n) : PyData.depthAll xs ≤ n := by
  induction xs with
  | nil => exact Nat.zero_le _
  | cons x xs ih =>
    unfold PyData.depthAll
    exact Nat.max_le.mpr ⟨h x List.mem_cons_self, ih fun y hy => h y (List.mem_cons_of_mem _ hy)⟩
theorem dOk_ok : ∀ (n : Nat) (d : PyData), dOk n d = true → d.canLay0 = true ∧ d.depth ≤ n
  | _, .none, _ => ⟨rfl, Nat.zero_le _⟩
  | _, .bool _, _ => ⟨rfl, Nat.zero_le _⟩
  | _, .int _, _ => ⟨rfl, Nat.zero_le _⟩
  | n, .str x, h => ⟨by cases n <;> simpa [dOk, PyData.canLay0] using h, Nat.zero_le _⟩
  | n + 1, .list xs, h => by
    have z : ∀ x ∈ xs, dOk n x = true := List.all_eq_true.mp (by simpa [dOk] using h)
    exact ⟨by rw [PyData.canLay0]; exact canLayAll_of fun x hx => (dOk_ok n x (z x hx)).1, by rw [PyData.depth]; exact Nat.succ_le_succ (depthAll_of fun x hx => (dOk_ok n x (z x hx)).2)⟩
  | n + 1, .tuple xs, h => by
    have z : ∀ x ∈ xs, dOk n x = true := List.all_eq_true.mp (by simpa [dOk] using h)
    exact ⟨by rw [PyData.canLay0]; exact canLayAll_of fun x hx => (dOk_ok n x (z x hx)).1, by rw [PyData.depth]; exact Nat.succ_le_succ (depthAll_of fun x hx => (dOk_ok n x (z x hx)).2)⟩
  | 0, .list _, h => by simp [dOk] at h
  | 0, .tuple _, h => by simp [dOk] at h
  | n, .dict _, h => by cases n <;> simp [dOk] at h
theorem shaped_ok {n : Nat} {d : PyData} (hn : n ≤ 64) (h : dOk n d = true) : SeqAt.shaped d = true := by
  obtain ⟨h1, h2⟩ := dOk_ok n d h
  unfold SeqAt.shaped
  rw [h1, decide_eq_true (by omega)]
  rfl
theorem shaped_int (i : Int) : SeqAt.shaped (.int i) = true := rfl
theorem shaped_none : SeqAt.shaped .none = true := rfl
theorem shaped_bool (b : Bool) : SeqAt.shaped (.bool b) = true := rfl
/-- data whose text is at most 26 signs a thing, and how many things there are -/
def sOk : Nat → PyData → Bool
  | _, .none => true
  | _, .bool _ => true
  | _, .int i => decide (i.natAbs < 10 ^ 20)
  | _, .str x => PySem.PyData.strOk x && decide ((reprText x).length ≤ 24)
  | n + 1, .list xs => xs.all (sOk n)
  | n + 1, .tuple xs => xs.all (sOk n)
  | 0, .list _ => false
  | 0, .tuple _ => false
  | _, .dict _ => false
def nodes : Nat → PyData → Nat
  | n + 1, .list xs => 1 + (xs.map (nodes n)).sum
  | n + 1, .tuple xs => 1 + (xs.map (nodes n)).sum
  | _, _ => 1
theorem sOk_dOk : ∀ (n : Nat) (d : PyData), sOk n d = true → dOk n d = true
  | n, .none, _ => by cases n <;> rfl
  | n, .bool _, _ => by cases n <;> rfl
  | n, .int _, _ => by cases n <;> rfl
  | n, .str x, h => by cases n <;> simp [sOk] at h <;> simpa [dOk] using h.1
  | n + 1, .list xs, h => by
    have z : ∀ x ∈ xs, sOk n x = true := List.all_eq_true.mp (by simpa [sOk] using h)
    simp only [dOk]
    exact List.all_eq_true.mpr fun x hx => sOk_dOk n x (z x hx)
  | n + 1, .tuple xs, h => by
    have z : ∀ x ∈ xs, sOk n x = true := List.all_eq_true.mp (by simpa [sOk] using h)
    simp only [dOk]
    exact List.all_eq_true.mpr fun x hx => sOk_dOk n x (z x hx)
  | 0, .list _, h => by simp [sOk] at h
  | 0, .tuple _, h => by simp [sOk] at h
  | n, .dict _, h => by cases n <;> simp [sOk] at h
theorem shownAll_eq : ∀ xs : List PyData, PyData.shownAll xs = xs.map PyData.shown
  | [] => rfl
  | x :: xs => by
    rw [PyData.shownAll, shownAll_eq xs]
    rfl
theorem sum_le {f g : PyData → Nat} : ∀ {xs : List PyData}, (∀ x ∈ xs, f x + 2 ≤ 26 * g x) → (xs.map f).sum + 2 * xs.length ≤ 26 * (xs.map g).sum
  | [], _ => by simp
  | x :: xs, h => by
    have a := h x List.mem_cons_self
    have b := sum_le (xs := xs) fun y hy => h y (List.mem_cons_of_mem _ hy)
    simp only [List.map_cons, List.sum_cons, List.length_cons]
    omega
theorem show_le : ∀ (n : Nat) (d : PyData), sOk n d = true → d.shown.length + 2 ≤ 26 * nodes n d ∧ d.showable = true
  | n, .none, _ => ⟨by cases n <;> (simp only [nodes]; decide), by simp only [PyData.showable]⟩
  | n, .bool b, _ => ⟨by cases n <;> cases b <;> (simp only [nodes]; decide), by simp only [PyData.showable]⟩
  | n, .int i, h => by
    have z : i.natAbs < 10 ^ 20 := by cases n <;> simpa [sOk] using h
    have e : (Str.ofString (toString i)).length ≤ 21 := by
      rw [PySem.ofString_length]
      exact int_text_length_le10 (k := 20) (by decide) z
    refine ⟨?_, ?_⟩
    · have e2 : (PyData.int i).shown = Str.ofString (toString i) := by simp only [PyData.shown] <;> rfl
      rw [e2]
      cases n <;> (simp only [nodes]; omega)
    · simp only [PyData.showable]
      refine decide_eq_true ?_
      by_cases q : i.natAbs = 0
      · rw [q]; decide
      · exact Nat.lt_trans ((Nat.log2_lt (k := 67) q).mpr (Nat.lt_trans z (by decide))) (by decide)
  | n, .str x, h => by
    have z : (reprText x).length ≤ 24 := by cases n <;> (simp [sOk] at h; exact h.2)
    refine ⟨?_, by simp only [PyData.showable]⟩
    have e2 : (PyData.str x).shown = reprText x := by simp only [PyData.shown]
    rw [e2]
    cases n <;> (simp only [nodes]; omega)
  | n + 1, .list xs, h => by
    have z : ∀ x ∈ xs, sOk n x = true := List.all_eq_true.mp (by simpa [sOk] using h)
    have a := listText_len_le (PyData.shownAll xs)
    have b := sum_le (f := fun x => x.shown.length) (g := nodes n) fun x hx => (show_le n x (z x hx)).1
    rw [shownAll_eq, List.map_map, List.length_map] at a
    refine ⟨?_, ?_⟩
    · have e2 : (PyData.list xs).shown = listText (xs.map PyData.shown) := by simp only [PyData.shown, shownAll_eq]
      rw [e2]
      simp only [nodes]
      have c : (xs.map ((fun x => x.length) ∘ PyData.shown)).sum = (xs.map fun x => x.shown.length).sum := rfl
      omega
    · simp only [PyData.showable]
      clear a b h
      induction xs with
      | nil => rfl
      | cons x xs ih =>
        simp only [PyData.showableAll, Bool.and_eq_true]
        exact ⟨(show_le n x (z x List.mem_cons_self)).2, ih fun y hy => z y (List.mem_cons_of_mem _ hy)⟩
  | n + 1, .tuple xs, h => by
    have z : ∀ x ∈ xs, sOk n x = true := List.all_eq_true.mp (by simpa [sOk] using h)
    have a := tupleText_len_le (PyData.shownAll xs)
    have b := sum_le (f := fun x => x.shown.length) (g := nodes n) fun x hx => (show_le n x (z x hx)).1
    rw [shownAll_eq, List.map_map, List.length_map] at a
    refine ⟨?_, ?_⟩
    · have e2 : (PyData.tuple xs).shown = tupleText (xs.map PyData.shown) := by simp only [PyData.shown, shownAll_eq]
      rw [e2]
      simp only [nodes]
      have c : (xs.map ((fun x => x.length) ∘ PyData.shown)).sum = (xs.map fun x => x.shown.length).sum := rfl
      omega
    · simp only [PyData.showable]
      clear a b h
      induction xs with
      | nil => rfl
      | cons x xs ih =>
        simp only [PyData.showableAll, Bool.and_eq_true]
        exact ⟨(show_le n x (z x List.mem_cons_self)).2, ih fun y hy => z y (List.mem_cons_of_mem _ hy)⟩
  | 0, .list _, h => by simp [sOk] at h
  | 0, .tuple _, h => by simp [sOk] at h
  | n, .dict _, h => by cases n <;> simp [sOk] at h
theorem reprOk_of {n : Nat} {d : PyData} (hn : n ≤ 32) (h : sOk n d = true) (hz : 26 * nodes n d ≤ 16777216) : reprOk d := by
  obtain ⟨a, b⟩ := show_le n d h
  obtain ⟨c, e⟩ := dOk_ok n d (sOk_dOk n d h)
  exact ⟨b, PyData.hasDict_of_canLay d c, by omega, by rw [sizeLine_eq]; omega⟩
theorem nodes_le {n c : Nat} {xs : List PyData} (h : ∀ x ∈ xs, nodes n x ≤ c) : (xs.map (nodes n)).sum ≤ c * xs.length := by
  induction xs with
  | nil => simp
  | cons x xs ih =>
    simp only [List.map_cons, List.sum_cons, List.length_cons]
    have a := h x List.mem_cons_self
    have b := ih fun y hy => h y (List.mem_cons_of_mem _ hy)
    rw [Nat.mul_succ]
    omega
end DL

namespace DL
open PySem PySem.Spec PyProof.Rows L2
set_option autoImplicit true

theorem put_same {h : MH} {a : Addr} {o : MO} : mput h a o a = some o := if_pos rfl
theorem put_other {h : MH} {a b : Addr} {o : MO} (n : b ≠ a) : mput h a o b = h b := if_neg n
theorem put_put {h : MH} {a : Addr} {o u : MO} : mput (mput h a o) a u = mput h a u := by
  funext b
  unfold mput
  split <;> rfl
theorem put_id {h : MH} {a : Addr} {o : MO} (e : h a = some o) : mput h a o = h := by
  funext b
  unfold mput
  split
  · rename_i q
    rw [q, e]
  · rfl
theorem restr_self {h : MH} {r : SV} : restr h h r = h := by
  funext b
  unfold restr
  cases q : h b with
  | none => simp
  | some o => simp
/-- what was made ahead of a call's end, and is not handed back, is no more -/
theorem restr_drop {h h' : MH} {p : Addr} {o : MO} {d : PyData} (n : h p = none) : restr h (mput h' p o) (.d d) = restr h h' (.d d) := by
  funext b
  unfold restr mput
  by_cases q : b = p
  · subst q
    simp [n, SV.isOwn]
  · simp only [if_neg q]
theorem restr_mdrop {h h' : MH} {p : Addr} {d : PyData} (n : h p = none) : restr h (mdrop h' p) (.d d) = restr h h' (.d d) := by
  funext b
  unfold restr mdrop
  by_cases q : b = p
  · subst q
    simp [n, SV.isOwn]
  · simp only [if_neg q]
theorem restr_putd {h h' : MH} {a : Addr} {o : MO} {d : PyData} (e : (h a).isSome = true) : restr h (mput h' a o) (.d d) = mput (restr h h' (.d d)) a o := by
  funext b
  unfold restr mput
  by_cases q : b = a
  · subst q
    simp [e]
  · simp only [if_neg q]
theorem restr_new {h : MH} {p : Addr} {o : MO} (n : h p = none) : restr h (mput h p o) (.own p) = mput h p o := by
  funext b
  unfold restr mput
  by_cases q : b = p
  · subst q
    simp [SV.isOwn]
  · simp only [if_neg q]
    cases z : h b with
    | none => simp
    | some o => simp
section
variable {σ : DSt} {h h' : MH} {Q : DK} {QB : Bool → MH → Prop} {QL : List PyData → MH → Prop} {QA : List SV → MH → Prop} {D : DEnds} {x y z : SV} {i j n m : Int} {d e : PyData} {ta tb tc : DTE} {t u : DTT} {r : DR2} {ts us : DTS} {tA : DTA} {tF : DTF} {xs ys ds es : List PyData} {a p : Addr} {b : Bool}
theorem e_var {i : Nat} (e : slot σ i = some x) (k : Q x h) : dVar i σ h Q := by unfold dVar; rw [e]; exact k
theorem e_c (k : Q (.d d) h) : dC d σ h Q := k
theorem e_op (k : ta σ h fun x h1 => tb σ h1 fun y h2 => r x y h2 Q) : dOp r ta tb σ h Q := k
def testK (QB : Bool → MH → Prop) : DK := fun x h1 => match x with
  | .d (.bool k) => QB k h1
  | _ => False
theorem e_test (k : ta σ h (testK QB)) : dTest ta σ h QB := k
theorem k_test (k : QB b h) : testK QB (.d (.bool b)) h := k
def andK (u : DTT) (σ : DSt) (QB : Bool → MH → Prop) : Bool → MH → Prop := fun c h1 => if c = true then u σ h1 QB else QB false h1
theorem e_and (k : t σ h (andK u σ QB)) : dAnd t u σ h QB := k
theorem k_and (k1 : b = true → u σ h QB) (k2 : b = false → QB false h) : andK u σ QB b h := by
  cases b with
  | true => exact k1 rfl
  | false => exact k2 rfl
def orK (u : DTT) (σ : DSt) (QB : Bool → MH → Prop) : Bool → MH → Prop := fun c h1 => if c = true then QB true h1 else u σ h1 QB
theorem e_or (k : t σ h (orK u σ QB)) : dOr t u σ h QB := k
theorem k_or (k1 : b = true → QB true h) (k2 : b = false → u σ h QB) : orK u σ QB b h := by
  cases b with
  | true => exact k1 rfl
  | false => exact k2 rfl
def notK (QB : Bool → MH → Prop) : Bool → MH → Prop := fun c h1 => QB (!c) h1
theorem e_not (k : t σ h (notK QB)) : dNot t σ h QB := k
theorem k_not (k : QB (!b) h) : notK QB b h := k
def andVK (tb : DTE) (σ : DSt) (Q : DK) : DK := fun x h1 => match x with
  | .d (.bool c) => if c = true then tb σ h1 Q else Q (.d (.bool false)) h1
  | _ => False
theorem e_andV (k : ta σ h (andVK tb σ Q)) : dAndV ta tb σ h Q := k
theorem k_andV (k1 : b = true → tb σ h Q) (k2 : b = false → Q (.d (.bool false)) h) : andVK tb σ Q (.d (.bool b)) h := by
  cases b with
  | true => exact k1 rfl
  | false => exact k2 rfl
def orVK (tb : DTE) (σ : DSt) (Q : DK) : DK := fun x h1 => match x with
  | .d (.bool c) => if c = true then Q (.d (.bool true)) h1 else tb σ h1 Q
  | _ => False
theorem e_orV (k : ta σ h (orVK tb σ Q)) : dOrV ta tb σ h Q := k
theorem k_orV (k1 : b = true → Q (.d (.bool true)) h) (k2 : b = false → tb σ h Q) : orVK tb σ Q (.d (.bool b)) h := by
  cases b with
  | true => exact k1 rfl
  | false => exact k2 rfl
def notVK (Q : DK) : DK := fun x h1 => match x with
  | .d (.bool c) => Q (.d (.bool (!c))) h1
  | _ => False
theorem e_notV (k : ta σ h (notVK Q)) : dNotV ta σ h Q := k
theorem k_notV (k : Q (.d (.bool (!b))) h) : notVK Q (.d (.bool b)) h := k
def ifEK (ta tb : DTE) (σ : DSt) (Q : DK) : Bool → MH → Prop := fun c h1 => if c = true then ta σ h1 Q else tb σ h1 Q
theorem e_ifE (k : t σ h (ifEK ta tb σ Q)) : dIf t ta tb σ h Q := k
theorem k_ifE (k1 : b = true → ta σ h Q) (k2 : b = false → tb σ h Q) : ifEK ta tb σ Q b h := by
  cases b with
  | true => exact k1 rfl
  | false => exact k2 rfl
theorem e_nil (k : QA [] h) : dNil σ h QA := k
theorem e_cons (k : ta σ h fun x h1 => tA σ h1 fun xs h2 => QA (x :: xs) h2) : dCons ta tA σ h QA := k
def tupK (Q : DK) : List SV → MH → Prop := fun xs h1 => match fzs xs h1 with
  | some (ds, h2) => ds.length ≤ sizeLine ∧ Q (.d (.tuple ds)) h2
  | none => False
theorem e_tup (k : tA σ h (tupK Q)) : dTup tA σ h Q := k
theorem k_tup {xs : List SV} (e : fzs xs h = some (ds, h')) (c : Nat.ble ds.length 16777216 = true) (k : Q (.d (.tuple ds)) h') : tupK Q xs h := by unfold tupK; rw [e]; exact ⟨by rw [sizeLine_eq]; exact Nat.le_of_ble_eq_true c, k⟩
def lstK (QL : List PyData → MH → Prop) : List SV → MH → Prop := fun xs h1 => match fzs xs h1 with
  | some (ds, h2) => ds.length ≤ sizeLine ∧ QL ds h2
  | none => False
theorem e_lst (k : tA σ h (lstK QL)) : fLst tA σ h QL := k
theorem k_lst {xs : List SV} (e : fzs xs h = some (ds, h')) (c : Nat.ble ds.length 16777216 = true) (k : QL ds h') : lstK QL xs h := by unfold lstK; rw [e]; exact ⟨by rw [sizeLine_eq]; exact Nat.le_of_ble_eq_true c, k⟩
theorem e_L (k : tF σ h fun ds h' => Q (.d (.list ds)) h') : dL tF σ h Q := k
theorem e_Own (k : tF σ h fun ds h1 => ∀ p, h1 p = none → Q (.own p) (mput h1 p (.lst ds))) : dOwn tF σ h Q := k
theorem e_B {r : DRA} (k : tA σ h fun xs h1 => r xs h1 Q) : dB r tA σ h Q := k
theorem e_fB {r : DRF} (k : tA σ h fun xs h1 => r xs h1 QL) : fB r tA σ h QL := k
theorem e_yes (k : QB true h) : dYes σ h QB := k
theorem e_call {E : DXS} {W : DSp} (k : tA σ h fun xs h1 => W xs h1 Q fun x h2 => E x σ h2) : dCall E W tA σ h Q := k
def mlK (r : DRM) (tA : DTA) (σ : DSt) (Q : DK) : DK := fun x h1 => match asL h1 x with
  | some _ => tA σ h1 fun xs h2 => r x xs h2 Q
  | none => False
theorem e_ML {r : DRM} (k : ta σ h (mlK r tA σ Q)) : dML r ta tA σ h Q := k
theorem k_ML {r : DRM} (e : asL h x = some ds) (k : tA σ h fun xs h2 => r x xs h2 Q) : mlK r tA σ Q x h := by unfold mlK; rw [e]; exact k
theorem e_seq (k : ts { D with nx := fun σ' h' => us D σ' h' } σ h) : dSeq ts us D σ h := k
theorem e_next (k : D.nx σ h) : dNext D σ h := k
theorem e_drop (k : ta σ h fun _ h1 => D.nx σ h1) : dDrop ta D σ h := k
theorem e_ret (k : ta σ h D.rt) : dRet ta D σ h := k
theorem e_retN (k : D.rt (.d .none) h) : dRetN D σ h := k
def retfK (D : DEnds) : DK := fun x h1 => match fz1 x h1 with
  | some (d, h2) => D.rt (.d d) h2
  | none => False
theorem e_retF (k : ta σ h (retfK D)) : dRetF ta D σ h := k
def ifK (ts us : DTS) (D : DEnds) (σ : DSt) : Bool → MH → Prop := fun c h1 => if c = true then ts D σ h1 else us D σ h1
theorem e_if (k : t σ h (ifK ts us D σ)) : dIfS t ts us D σ h := k
theorem k_if (k1 : b = true → ts D σ h) (k2 : b = false → us D σ h) : ifK ts us D σ b h := by
  cases b with
  | true => exact k1 rfl
  | false => exact k2 rfl
theorem k_ifF (k1 : us D σ h) : ifK ts us D σ false h := k1
def asgK (g : Tg) (D : DEnds) (σ : DSt) : DK := fun x h1 => match bindT g x σ with
  | some σ' => D.nx σ' h1
  | none => False
theorem e_asg {g : Tg} (k : ta σ h (asgK g D σ)) : dAsg ta g D σ h := k
theorem k_nm {i : Nat} (k : D.nx (σ.set i (some x)) h) : asgK (.nm i) D σ x h := k
theorem k_tg {is : List Nat} (e : ds.length = is.length) (k : D.nx (setAll is ds σ) h) : asgK (.tup is) D σ (.d (.tuple ds)) h := by
  show (match (if ds.length = is.length then some (setAll is ds σ) else none) with
    | some σ' => D.nx σ' h
    | none => False)
  rw [if_pos e]
  exact k
def parK (i j : Nat) (D : DEnds) (σ : DSt) : List SV → MH → Prop := fun xs h1 => match xs with
  | [x, y] => D.nx ((σ.set i (some x)).set j (some y)) h1
  | _ => False
theorem e_par {i j : Nat} (k : tA σ h (parK i j D σ)) : dPar i j tA D σ h := k
theorem k_par {i j : Nat} (k : D.nx ((σ.set i (some x)).set j (some y)) h) : parK i j D σ [x, y] h := k
def par3K (i j l : Nat) (D : DEnds) (σ : DSt) : List SV → MH → Prop := fun xs h1 => match xs with
  | [x, y, z] => D.nx (((σ.set i (some x)).set j (some y)).set l (some z)) h1
  | _ => False
theorem e_par3 {i j l : Nat} (k : tA σ h (par3K i j l D σ)) : dPar3 i j l tA D σ h := k
theorem k_par3 {i j l : Nat} (k : D.nx (((σ.set i (some x)).set j (some y)).set l (some z)) h) : par3K i j l D σ [x, y, z] h := k
def setK (D : DEnds) (σ : DSt) (y x i : SV) (h3 : MH) : Prop := match ownO h3 x with
  | some p => match setO p.2 i y with
    | some o => D.nx σ (mput h3 p.1 o)
    | none => False
  | none => match fz1 y h3 with
    | some (d, h4) => match ownL h4 x, asInt i with
      | some (a, ds), some k => match ixN ds.length k with
        | some j => D.nx σ (mput h4 a (.lst (ds.set j d)))
        | none => False
      | _, _ => False
    | none => False
theorem e_setIx (k : ta σ h fun y h1 => tb σ h1 fun x h2 => tc σ h2 fun i h3 => setK D σ y x i h3) : dSetIx ta tb tc D σ h := k
theorem k_set {j : Nat} (e : h a = some (.lst ds)) (e2 : ixN ds.length n = some j) (k : D.nx σ (mput h a (.lst (ds.set j d)))) : setK D σ (.d d) (.own a) (.d (.int n)) h := by
  have q0 : ownO h (.own a) = none := by simp only [ownO, e]
  unfold setK
  rw [q0]
  show (match ownL h (.own a), some n with
    | some (a, ds), some k => (match ixN ds.length k with
      | some j => D.nx σ (mput h a (.lst (ds.set j d)))
      | none => False)
    | _, _ => False)
  have q : ownL h (.own a) = some (a, ds) := by simp only [ownL, e]
  rw [q]
  show (match ixN ds.length n with
      | some j => D.nx σ (mput h a (.lst (ds.set j d)))
      | none => False)
  rw [e2]
  exact k
/-- a dict of one's own is written -/
theorem k_setD {ps : List (Key × SV)} {kk : Key} (e : h a = some (.dct ps)) (e2 : asKey y = some kk) (hl : ps.length < 16777216) (k : D.nx σ (mput h a (.dct (putS ps kk x)))) : setK D σ x (.own a) y h := by
  have q0 : ownO h (.own a) = some (a, .dct ps) := by simp only [ownO, e]
  have q1 : setO (.dct ps) y x = some (.dct (putS ps kk x)) := by
    unfold setO
    simp only [e2]
    rw [if_pos (by simpa using hl)]
  unfold setK
  rw [q0]
  simp only [q1]
  exact k
theorem r_ixD {ps : List (Key × SV)} {kk : Key} {z : SV} (e : h a = some (.dct ps)) (e2 : asKey y = some kk) (e3 : valS ps kk = some z) (k : Q z h) : rdIx (.own a) y h Q := by
  have q0 : ownO h (.own a) = some (a, .dct ps) := by simp only [ownO, e]
  unfold rdIx
  rw [q0]
  simp only [ixO, e2, e3]
  exact k
theorem e_for {w : DTI} {g : Tg} (k : w σ h fun ds h1 => forL g ts D ds σ h1) : dFor w g ts D σ h := k
theorem e_rt {h0 : MH} (k : Q x (restr h0 h x)) : (dEnd h0 Q).rt x h := ⟨_, restr_sub, k⟩
theorem e_rtA {h0 : MH} (k : Q x h) : (dEnd h0 Q).rt x h := ⟨h, fun _ _ q => q, k⟩
theorem e_nx {h0 : MH} (k : Q (.d .none) (restr h0 h (.d .none))) : (dEnd h0 Q).nx σ h := ⟨_, restr_sub, k⟩
theorem e_nxA {h0 : MH} (k : Q (.d .none) h) : (dEnd h0 Q).nx σ h := ⟨h, fun _ _ q => q, k⟩
theorem r_add (k : Q (.d (.int (i + j))) h) : rdAdd (.d (.int i)) (.d (.int j)) h Q := k
theorem r_addL (c : xs.length + ys.length ≤ 16777216) (k : Q (.d (.list (xs ++ ys))) h) : rdAdd (.d (.list xs)) (.d (.list ys)) h Q := ⟨by rw [sizeLine_eq]; exact c, k⟩
theorem r_sub (k : Q (.d (.int (i - j))) h) : rdSub (.d (.int i)) (.d (.int j)) h Q := k
theorem r_mul (c : CMul i j) (k : Q (.d (.int (i * j))) h) : rdMul (.d (.int i)) (.d (.int j)) h Q := ⟨c, k⟩
theorem r_div (c : CDivN i j) (k : Q (.d (.int (i.fdiv j))) h) : rdDiv (.d (.int i)) (.d (.int j)) h Q := ⟨c, k⟩
theorem r_mod (c : j ≠ 0) (k : Q (.d (.int (i.fmod j))) h) : rdMod (.d (.int i)) (.d (.int j)) h Q := ⟨c, k⟩
theorem r_pow (c : CPow i j) (k : Q (.d (.int (i ^ j.toNat))) h) : rdPow (.d (.int i)) (.d (.int j)) h Q := ⟨c, k⟩
theorem r_lt (k : Q (.d (.bool (decide (i < j)))) h) : rdLt (.d (.int i)) (.d (.int j)) h Q := k
theorem r_le (k : Q (.d (.bool (decide (i ≤ j)))) h) : rdLe (.d (.int i)) (.d (.int j)) h Q := k
theorem r_gt (k : Q (.d (.bool (decide (j < i)))) h) : rdGt (.d (.int i)) (.d (.int j)) h Q := k
theorem r_ge (k : Q (.d (.bool (decide (j ≤ i)))) h) : rdGe (.d (.int i)) (.d (.int j)) h Q := k
theorem r_eq (e1 : asD h x = some d) (e2 : asD h y = some e) (s1 : SeqAt.shaped d = true) (s2 : SeqAt.shaped e = true) (k : Q (.d (.bool (PyData.eqv d e))) h) : rdEq x y h Q := by unfold rdEq; rw [e1, e2]; exact ⟨.inl ⟨s1, s2⟩, k⟩
theorem r_ne (e1 : asD h x = some d) (e2 : asD h y = some e) (s1 : SeqAt.shaped d = true) (s2 : SeqAt.shaped e = true) (k : Q (.d (.bool (!PyData.eqv d e))) h) : rdNe x y h Q := by unfold rdNe; rw [e1, e2]; exact ⟨.inl ⟨s1, s2⟩, k⟩
theorem r_eqI (k : Q (.d (.bool (decide (i = j)))) h) : rdEq (.d (.int i)) (.d (.int j)) h Q := ⟨.inl ⟨rfl, rfl⟩, by
  have z : PyData.eqv (.int i) (.int j) = decide (i = j) := by simp only [PyData.eqv]; by_cases q : i = j <;> simp [q]
  rw [z]; exact k⟩
theorem r_neI (k : Q (.d (.bool (!decide (i = j)))) h) : rdNe (.d (.int i)) (.d (.int j)) h Q := ⟨.inl ⟨rfl, rfl⟩, by
  have z : PyData.eqv (.int i) (.int j) = decide (i = j) := by simp only [PyData.eqv]; by_cases q : i = j <;> simp [q]
  rw [z]; exact k⟩
theorem r_eqS {s1 s2 : Str} (k : Q (.d (.bool (s1 == s2))) h) : rdEq (.d (.str s1)) (.d (.str s2)) h Q := ⟨.inr rfl, by
  have z : PyData.eqv (.str s1) (.str s2) = (s1 == s2) := by simp only [PyData.eqv]
  rw [z]; exact k⟩
theorem r_neS {s1 s2 : Str} (k : Q (.d (.bool (!(s1 == s2)))) h) : rdNe (.d (.str s1)) (.d (.str s2)) h Q := ⟨.inr rfl, by
  have z : PyData.eqv (.str s1) (.str s2) = (s1 == s2) := by simp only [PyData.eqv]
  rw [z]; exact k⟩
theorem r_isN (k : Q (.d (.bool (isNone x))) h) : rdIsN x (.d .none) h Q := ⟨rfl, k⟩
theorem r_notN (k : Q (.d (.bool (!isNone x))) h) : rdNotN x (.d .none) h Q := ⟨rfl, k⟩
theorem r_ix (e0 : asStr x = none) (e1 : asQ h x = some xs) (e2 : atI xs n = some d) (k : Q (.d d) h) : rdIx x (.d (.int n)) h Q := by
  unfold rdIx
  rw [ownO_asQ e1]
  show (match asStr x with
    | some z => (match atI z.cps.toList n with
      | some c => z.length ≤ sizeLine ∧ Q (.d (.str ⟨#[c]⟩)) h
      | none => False)
    | none => (match asQ h x with
      | some xs => (match atI xs n with
        | some d => Q (.d d) h
        | none => False)
      | none => False))
  rw [e0]
  show (match asQ h x with
      | some xs => (match atI xs n with
        | some d => Q (.d d) h
        | none => False)
      | none => False)
  rw [e1]
  show (match atI xs n with
        | some d => Q (.d d) h
        | none => False)
  rw [e2]
  exact k
theorem r_ixT (e2 : atI xs n = some d) (k : Q (.d d) h) : rdIx (.d (.tuple xs)) (.d (.int n)) h Q := r_ix rfl rfl e2 k
theorem r_ixL (e2 : atI xs n = some d) (k : Q (.d d) h) : rdIx (.d (.list xs)) (.d (.int n)) h Q := r_ix rfl rfl e2 k
theorem asQ_own (e : h a = some (.lst xs)) : asQ h (.own a) = some xs := by unfold asQ asL; simp only [e]
theorem asL_own (e : h a = some (.lst xs)) : asL h (.own a) = some xs := by unfold asL; simp only [e]
theorem ownL_own (e : h a = some (.lst xs)) : ownL h (.own a) = some (a, xs) := by unfold ownL; simp only [e]
theorem r_ixO (e1 : h a = some (.lst xs)) (e2 : atI xs n = some d) (k : Q (.d d) h) : rdIx (.own a) (.d (.int n)) h Q := r_ix rfl (asQ_own e1) e2 k
theorem r_notInL (e1 : asD h x = some d) (e2 : asL h y = some ds) (s1 : SeqAt.shaped d = true) (s2 : SeqAt.shaped (.list ds) = true) (k : Q (.d (.bool (!ds.any fun z => PyData.eqv z d))) h) : rdNotInL x y h Q := by unfold rdNotInL; rw [ownO_asL e2]; simp only []; rw [e1, e2]; exact ⟨s1, s2, k⟩
theorem e_negC (k : Q (.d (.int (-i))) h) : dNeg (dC (.int i)) σ h Q := k
theorem b_len (e1 : asStr x = none) (e2 : asQ h x = some xs) (k : Q (.d (.int (xs.length : Nat))) h) : rdLen [x] h Q := by
  have q := ownO_asQ e2
  unfold rdLen
  simp only [q, e1, e2]
  exact k
theorem b_lenT (k : Q (.d (.int (xs.length : Nat))) h) : rdLen [.d (.tuple xs)] h Q := b_len rfl rfl k
theorem b_lenL (k : Q (.d (.int (xs.length : Nat))) h) : rdLen [.d (.list xs)] h Q := b_len rfl rfl k
theorem b_lenO (e : h a = some (.lst xs)) (k : Q (.d (.int (xs.length : Nat))) h) : rdLen [.own a] h Q := b_len rfl (asQ_own e) k
theorem b_tuple (e2 : asQ h x = some xs) (k : Q (.d (.tuple xs)) h) : rdTuple [x] h Q := by unfold rdTuple; simp only [e2]; exact k
theorem b_tupleL (k : Q (.d (.tuple xs)) h) : rdTuple [.d (.list xs)] h Q := k
theorem b_listL (k : QL xs h) : rfList [.d (.list xs)] h QL := k
theorem b_listT (k : QL xs h) : rfList [.d (.tuple xs)] h QL := k
theorem b_intI (k : Q (.d (.int i)) h) : rdInt [.d (.int i)] h Q := k
theorem b_intB (k : Q (.d (.int (if b then 1 else 0))) h) : rdInt [.d (.bool b)] h Q := k
theorem b_repr (c : reprOk d) (k : Q (.d (.str d.shown)) h) : rdRepr [.d d] h Q := ⟨c, k⟩
theorem b_sortT (m : Nat) (c : tupOk m ds) (k : QL (ds.mergeSort (leD m)) h) : rdSorted [.d (.list ds)] h QL := .inr ⟨m, c, k⟩
def byK (QL : List PyData → MH → Prop) : List SV → MH → Prop := fun xs h1 => match xs with
  | [x] => match asQ h1 x with
    | some ds => byOk ds ∧ QL (ds.mergeSort leBy) h1
    | none => False
  | _ => False
theorem e_by (k : tA σ h (byK QL)) : fBy tA σ h QL := k
def faddK (QL : List PyData → MH → Prop) (x y : SV) (h2 : MH) : Prop := match asL h2 x, asL h2 y with
  | some a, some b => a.length + b.length ≤ sizeLine ∧ QL (a ++ b) h2
  | _, _ => False
theorem e_fAdd (k : ta σ h fun x h1 => tb σ h1 fun y h2 => faddK QL x y h2) : fAdd ta tb σ h QL := k
def rg1K (QL : List PyData → MH → Prop) : DK := fun x h1 => match asInt x with
  | some n => n ≤ 16777216 ∧ -16777216 ≤ n ∧ QL (rgD 0 n) h1
  | none => False
theorem e_lrg1 (k : ta σ h (rg1K QL)) : fLstRg1 ta σ h QL := k
theorem k_lrg1 (c1 : n ≤ 16777216) (c2 : -16777216 ≤ n) (k : QL (rgD 0 n) h) : rg1K QL (.d (.int n)) h := ⟨c1, c2, k⟩
def rg2K (QL : List PyData → MH → Prop) (x y : SV) (h2 : MH) : Prop := match asInt x, asInt y with
  | some n, some m => (0 ≤ n ∧ n ≤ 16777216 ∧ -16777216 ≤ m ∧ m ≤ 16777216) ∧ QL (rgD n m) h2
  | _, _ => False
theorem e_lrg2 (k : ta σ h fun x h1 => tb σ h1 fun y h2 => rg2K QL x y h2) : fLstRg2 ta tb σ h QL := k
theorem e_sl {tl th : DTO} (k : ta σ h fun x h1 => tl σ h1 fun lo h2 => th σ h2 fun hi h3 => rdSl x lo hi h3 Q) : dSl ta tl th σ h Q := k
theorem e_no {QO : Option Int → MH → Prop} (k : QO none h) : dNoPart σ h QO := k
def partK (QO : Option Int → MH → Prop) : DK := fun x h1 => match asInt x with
  | some i => QO (some i) h1
  | none => False
theorem e_part {QO : Option Int → MH → Prop} (k : ta σ h (partK QO)) : dPart ta σ h QO := k
theorem k_part {QO : Option Int → MH → Prop} (k : QO (some i) h) : partK QO (.d (.int i)) h := k
theorem r_slL {lo hi : Option Int} (k : Q (.d (.list (cutD xs lo hi))) h) : rdSl (.d (.list xs)) lo hi h Q := k
theorem r_slT {lo hi : Option Int} (k : Q (.d (.tuple (cutD xs lo hi))) h) : rdSl (.d (.tuple xs)) lo hi h Q := k
theorem m_append (e : h a = some (.lst ds)) (c : ds.length < 16777216) (k : Q (.d .none) (mput h a (.lst (ds ++ [d])))) : rdAppend (.own a) [.d d] h Q := by
  unfold rdAppend fz1
  simp only [ownL_own e]
  exact ⟨by rw [sizeLine_eq]; exact c, k⟩
theorem m_popAt {k' : Nat} (e : h a = some (.lst ds)) (e1 : seqIndex? n ds.length = some k') (e2 : ds[k']? = some d) (c : -(2 ^ 63) ≤ n ∧ n < 2 ^ 63) (k : Q (.d d) (mput h a (.lst (ds.eraseIdx k')))) : rdPopAt (.own a) [.d (.int n)] h Q := by
  unfold rdPopAt asInt
  simp only [ownL_own e, e1, e2]
  exact ⟨c, k⟩
def seqK (QL : List PyData → MH → Prop) : DK := fun x h1 => match fz1 x h1 with
  | some (.list ds, h2) => QL ds h2
  | some (.tuple ds, h2) => QL ds h2
  | _ => False
theorem e_wSeq (k : ta σ h (seqK QL)) : wSeq ta σ h QL := k
theorem k_seqL (k : QL ds h) : seqK QL (.d (.list ds)) h := k
theorem k_seqT (k : QL ds h) : seqK QL (.d (.tuple ds)) h := k
theorem k_seqO (e : h a = some (.lst ds)) (k : QL ds (mdrop h a)) : seqK QL (.own a) h := by unfold seqK fz1; simp only [e]; exact k
def wr1K (QL : List PyData → MH → Prop) : DK := fun x h1 => match asInt x with
  | some n => (-(2 ^ 62) ≤ n ∧ n < 2 ^ 62) ∧ QL (rgD 0 n) h1
  | none => False
theorem e_wRg1 (k : ta σ h (wr1K QL)) : wRg1 ta σ h QL := k
theorem k_wRg1 (c : -(2 ^ 62) ≤ n ∧ n < 2 ^ 62) (k : QL (rgD 0 n) h) : wr1K QL (.d (.int n)) h := ⟨c, k⟩
theorem e_fLc {w : DTI} {g : Tg} {vs : List Nat} (k : w σ h fun ds h1 => ds.length ≤ sizeLine ∧ lcL g t ta (wipeD σ vs) ds [] h1 QL) : fLc w g t ta vs σ h QL := k
end

/-- a loop by what holds ahead of each turn; K: what comes behind the turn -/
theorem for_inv {g : Tg} {tb : DTS} {D : DEnds} (I : List PyData → DSt → MH → Prop) (step : ∀ d r σ h (K : DSt → MH → Prop), I (d :: r) σ h → (∀ σ' h', I r σ' h' → K σ' h') → ∃ σ1, bindT g (.d d) σ = some σ1 ∧ tb { nx := K, ct := K, bk := D.nx, rt := D.rt } σ1 h)
    (fin : ∀ σ h, I [] σ h → D.nx σ h) : ∀ ds σ h, I ds σ h → forL g tb D ds σ h
  | [], σ, h, i => fin σ h i
  | d :: r, σ, h, i => by
    obtain ⟨σ1, e, w⟩ := step d r σ h (fun σ' h' => forL g tb D r σ' h') i fun σ' h' i' => for_inv I step fin r σ' h' i'
    unfold forL
    rw [e]
    exact w
def lcK (te : DTE) (σ1 : DSt) (acc : List PyData) (K : List PyData → MH → Prop) : Bool → MH → Prop := fun b h1 => if b = true then te σ1 h1 fun y h2 => match fz1 y h2 with
        | some (z, h3) => K (acc ++ [z]) h3
        | none => False
      else K acc h1
def lcE (acc : List PyData) (K : List PyData → MH → Prop) : DK := fun y h2 => match fz1 y h2 with
        | some (z, h3) => K (acc ++ [z]) h3
        | none => False
theorem k_lc {te : DTE} {σ1 : DSt} {acc : List PyData} {K : List PyData → MH → Prop} {b : Bool} {h : MH} (k1 : b = true → te σ1 h (lcE acc K)) (k2 : b = false → K acc h) : lcK te σ1 acc K b h := by
  cases b with
  | true => exact k1 rfl
  | false => exact k2 rfl
theorem k_lcE {acc : List PyData} {K : List PyData → MH → Prop} {d : PyData} {h : MH} (k : K (acc ++ [d]) h) : lcE acc K (.d d) h := k
theorem lc_inv {g : Tg} {tt : DTT} {te : DTE} {σ : DSt} {Q : List PyData → MH → Prop} (I : List PyData → List PyData → MH → Prop) (step : ∀ d r acc h (K : List PyData → MH → Prop), I (d :: r) acc h → (∀ acc' h', I r acc' h' → K acc' h') → ∃ σ1, bindT g (.d d) σ = some σ1 ∧ tt σ1 h (lcK te σ1 acc K))
    (fin : ∀ acc h, I [] acc h → Q acc h) : ∀ ds acc h, I ds acc h → lcL g tt te σ ds acc h Q
  | [], acc, h, i => fin acc h i
  | d :: r, acc, h, i => by
    obtain ⟨σ1, e, w⟩ := step d r acc h (fun acc' h' => lcL g tt te σ r acc' h' Q) i fun acc' h' i' => lc_inv I step fin r acc' h' i'
    unfold lcL
    rw [e]
    exact w
/-- a comprehension that changes nothing -/
theorem lc_pure {g : Tg} {tt : DTT} {te : DTE} {σ : DSt} {Q : List PyData → MH → Prop} {h : MH} (b : PyData → Bool) (f : PyData → PyData) {ds : List PyData}
    (step : ∀ d ∈ ds, ∃ σ1, bindT g (.d d) σ = some σ1 ∧ (∀ K : Bool → MH → Prop, K (b d) h → tt σ1 h K) ∧ (b d = true → ∀ K : DK, K (.d (f d)) h → te σ1 h K)) (fin : Q ((ds.filter b).map f) h) : lcL g tt te σ ds [] h Q := by
  refine lc_inv (fun r acc h' => ∃ l, ds = l ++ r ∧ acc = (l.filter b).map f ∧ h' = h) ?_ ?_ ds [] h ⟨[], rfl, rfl, rfl⟩
  · rintro d r acc h' K ⟨l, e, ea, rfl⟩ hK
    obtain ⟨σ1, e1, t1, t2⟩ := step d (by rw [e]; simp)
    refine ⟨σ1, e1, t1 _ ?_⟩
    refine k_lc (fun q => t2 q _ ?_) fun q => ?_
    · exact k_lcE (hK _ _ ⟨l ++ [d], by rw [e]; simp, by rw [List.filter_append, List.map_append, ← ea]; simp [q], rfl⟩)
    · exact hK _ _ ⟨l ++ [d], by rw [e]; simp, by rw [List.filter_append, List.map_append, ← ea]; simp [q], rfl⟩
  · rintro acc h' ⟨l, e, ea, rfl⟩
    rw [List.append_nil] at e
    subst e
    rw [ea]
    exact fin
end DL

namespace DL
open PySem PySem.Spec PyProof.Rows L2
set_option autoImplicit true

section
open PySem.W PySem.Calls PySem.HandSPX Builtin Builtin.ObjectAttr
variable {prog : Program} {w : World} {A : Around} {E : Value → Shared → Prop} {R : Result → Shared → Prop} {hp : Heap} {g : Array GenState} {d : Drawn} {t : Nat} {os : OsState} {B newId initId : String} {bmB : List Value}
/-- the first field of a fresh error -/
theorem put_first {K : Frag} {f : Str} {tk : Tok} {u : Value} {e C : Addr} {fv : Array Value} {cd : ClassData} (SF : StoreFacts B bmB "object.__setattr__" "object") (X : K.In hp) (he : hp.get? e = some { cls := .ref C, data := .fields fv }) (hc : clsIn K C = some cd) (ho : excOver K C bmB = true) (hd : cd.hasDict = true) (ht : takerIn K C f = some none)
    (k : ∀ h' tk' dx, (∀ b o, b ≠ e → hp.get? b = some o → h'.get? b = some o) → hp.objs.size ≤ dx → dx ≠ e → h'.get? e = some { cls := .ref C, dict := some dx, data := .fields fv } → h'.Ns1 dx (fun y => if y = f then some u else none) → R (.ok (.ret .none)) ⟨h', g, d, tk', os⟩) :
    codeAny (model prog w) A (.call (.builtin "object.__setattr__") ⟨[.ref e, .str f tk, u], []⟩) R ⟨hp, g, d, t, os⟩ := by
  have hes : e ≠ hp.objs.size := Nat.ne_of_lt (Heap.lt_size he)
  refine osa_openX (od := none) SF X ⟨he, rfl, rfl, trivial⟩ ho ht fun b => ?_
  have hl : Looks (model prog w) hp (classData C) cd := looks_clsIn X hc
  show wpAny _ _ (storeInOwnDict (.ref e) (.ref C) (.str f tk) f u b) _ _ _
  obtain ⟨nm, bs, mro, ns, qn, hd', sn, sb, ab, col, del⟩ := cd
  dsimp only at hd
  subst hd
  unfold storeInOwnDict ownDictForStores
  repeat (first | with_reducible refine store_in_new ?_ ?_ | with_reducible refine wpAny_loadPart_at he ?_ | with_reducible refine hl.at ?_ | wp_step)
  · exact ⟨_, #[], _, (Heap.get?_update_ne _ _ _ _ hes.symm).trans (Heap.get?_push_at rfl rfl), rfl, fun e he => absurd he (by simp), fun _ => rfl⟩
  · intro h' tk' n1 s1
    have he1 : (hp.push { cls := .type "dict", data := .dict #[] }).get? e = some { cls := .ref C, data := .fields fv } := Heap.get?_push_of_some _ he
    refine k h' tk' hp.objs.size (fun b o hb hbo => ?_) (Nat.le_refl _) hes.symm ?_ n1
    · exact (s1.2 b (Nat.ne_of_lt (Heap.lt_size hbo))).trans ((Heap.get?_update_ne _ _ _ _ hb).trans (Heap.get?_push_of_some _ hbo))
    · exact (s1.2 e hes).trans (Heap.get?_update_self _ he1 rfl)
/-- a further field -/
theorem put_more {K : Frag} {f : Str} {tk : Tok} {u : Value} {e C dx : Addr} {fv : Array Value} {cd : ClassData} {m0 : Str → Option Value} {nl : List Str} (SF : StoreFacts B bmB "object.__setattr__" "object") (X : K.In hp) (he : hp.get? e = some { cls := .ref C, dict := some dx, data := .fields fv })
    (hn : hp.Ns1 dx m0) (hw : Within m0 nl) (hz : nl.length ≤ 1000) (hc : clsIn K C = some cd) (ho : excOver K C bmB = true) (hd : cd.hasDict = true) (ht : takerIn K C f = some none)
    (k : ∀ h' tk', (∀ b o, b ≠ dx → hp.get? b = some o → h'.get? b = some o) → h'.Ns1 dx (fun y => if y = f then some u else m0 y) → R (.ok (.ret .none)) ⟨h', g, d, tk', os⟩) :
    codeAny (model prog w) A (.call (.builtin "object.__setattr__") ⟨[.ref e, .str f tk, u], []⟩) R ⟨hp, g, d, t, os⟩ := by
  obtain ⟨oD, esD, epD, hoD, hdD, _⟩ := hn.count hw
  refine osa_openX (od := some oD) SF X ⟨he, rfl, rfl, hoD⟩ ho ht fun b => ?_
  have hl : Looks (model prog w) hp (classData C) cd := looks_clsIn X hc
  show wpAny _ _ (storeInOwnDict (.ref e) (.ref C) (.str f tk) f u b) _ _ _
  obtain ⟨nm, bs, mro, ns, qn, hd', sn, sb, ab, col, del⟩ := cd
  dsimp only at hd
  subst hd
  unfold storeInOwnDict ownDictForStores
  repeat (first | with_reducible refine PySem.OEX.store_in_old hn hw hz ?_ | with_reducible refine wpAny_loadPart_at he ?_ | with_reducible refine hl.at ?_ | wp_step)
  intro h' tk' n1 s1
  exact k h' tk' (fun b o hb hbo => (s1.2 b hb).trans hbo) n1
end
/-- what the written part says of the error class x at C, its base's name and place, its __init__ at fI, its fields -/
structure ErrC (K : PySem.W.Frag) (mg : Str → Option Value) (x base : Str) (C Cb fI : Addr) (fs : List Str) (B newId initId : String) (bmB : List Value) : Prop where
  gC : mg x = some (.ref C)
  gB : mg base = some (.ref Cb)
  cls : ∃ nm q N bs bm sn sub ab col dd k0 k1 k2 k3 k5, K.lookup C = some (PySem.excClassObj nm q C N bs bm true sn sub ab col dd k0 k1 k2 k3 k5 newId) ∧ PySem.W.excTail bmB bm = true
  FB : PySem.ExcBaseFacts B newId initId bmB
  SF : PySem.StoreFacts B bmB "object.__setattr__" "object"
  ov : PySem.W.excOver K C bmB = true
  sa : PySem.W.findIn K (.ref C) "__setattr__" = some (some (.builtin "object.__setattr__"))
  ga : PySem.W.findIn K (.ref C) "__getattribute__" = some (some (.builtin "BaseException.__getattribute__"))
  gg : PySem.W.findIn K (.ref C) "__getattr__" = some none
  tk : ∀ f ∈ fs, PySem.W.takerIn K C f = some none
  no : ∀ f ∈ fs, PySem.W.findIn K (.ref C) f = some none
  iC : PySem.W.findIn K (.ref C) "__init__" = some (some (.ref fI))
  tC : PySem.W.typeIn K (.ref fI) = some (.type "function")
  kC : PySem.W.keepIn K (.ref C) = true
  exC : PySem.W.subIn K (.ref C) (.type "BaseException") = some true
  tyC : PySem.W.typeIn K (.ref C) = some (.type "type")
  hdC : PySem.W.hasDictIn K C = true
  rdB : PySem.W.readsIn K Cb (.type "type") = true
  gaB : PySem.W.specialIn K (.ref Cb) "__getattribute__" = some (some (.builtin "type.__getattribute__"))
  hI : PySem.W.handedIn (.builtin initId) = true
  biB : PySem.W.findCls K (.ref Cb) (.type "type") "__init__" = some (.val (.builtin initId))

abbrev eCall (base : Str) (q1 q2 q3 q4 q5 : Pos) : Stmt := .Expr (.Call (.Attribute (.Name base q1) "__init__" q2) [.Name "self" q3] [] q4) q5
abbrev ePut (f : Str) (q1 q2 q3 q4 : Pos) : Stmt := .Assign [.Attribute (.Name "self" q1) f q2] (.Name f q3) q4
/-- the scope of such an __init__ -/
structure EScope (scope : Scope) (base : Str) (fs : List Str) : Prop where
  kind : scope.kind = .function
  co : scope.isCoroutine = false
  gen : scope.isGenerator = false
  me : scope.names.lookup ("self" : Str) = some .local
  base : scope.names.lookup base = some .globalImplicit
  fs : ∀ f ∈ fs, scope.names.lookup f = some .local ∧ f ≠ ("self" : Str) ∧ (f == ("__debug__" : Str)) = false
/-- what __init__ leaves of a fresh error at e -/
structure EInit (h h' : Heap) (e C dx t1 : Addr) (m : Str → Option Value) : Prop where
  keep : ∀ b o, b ≠ e → h.get? b = some o → h'.get? b = some o
  obj : h'.get? e = some { cls := .ref C, dict := some dx, data := .fields #[.ref t1, .none, .none, .none, .bool false, .none] }
  big : h.objs.size ≤ dx
  ne : dx ≠ e
  ns : h'.Ns1 dx m
section
open PySem.W PySem.Calls PySem.HandSPX
variable {prog : Program} {w : World} {A : Around} {R : Result → Shared → Prop} {s : Shared} {K : Frag} {mg : Str → Option Value} {x base qual : Str} {C Cb fI : Addr} {B newId initId : String} {bmB : List Value} {params : Arguments} {scope : Scope} {fd : FuncData}
theorem e_load {M : Model} {A : Around} {E : Value → Shared → Prop} {s : Shared} {env : Env} {m : Str → Option Value} {y : Str} {pos : Pos} {v : Value} {Q : Value → Shared → Prop} (hk : env.scope.kind = .function) (hl : env.kindOf y = some .local) (hn : s.heap.Ns env.locals m) (hv : m y = some v) (k : Q v s)
    (hd : (y == ("__debug__" : Str)) = false) : wpAny M A (eval (.Name y pos) env) Q E s := wpAny_Name (wpAny_loadName_local hk hl hn hv k) hd
theorem bind2 {kindOf : Str → Option NameKind} {f : Str} {a v : Value} (h1 : kindOf "self" = some .local) (h2 : kindOf f = some .local) (ne : f ≠ ("self" : Str)) : bindL kindOf [("self", a), (f, v)] (fun _ => none) "self" = some a ∧ bindL kindOf [("self", a), (f, v)] (fun _ => none) f = some v := by
  have ne' : ¬ ("self" : Str) = f := fun z => ne z.symm
  constructor
  · simp [bindL, h1, h2, ne']
  · simp [bindL, h1, h2]
/-- a made error -/
structure EMade (h h' : Heap) (e C dx : Addr) (m : Str → Option Value) : Prop where
  keep : ∀ b o, h.get? b = some o → h'.get? b = some o
  new : h.objs.size ≤ e
  obj : ∃ oe vs, h'.get? e = some oe ∧ oe.cls = .ref C ∧ oe.dict = some dx ∧ oe.data = .fields vs ∧ vs[1]? = some .none
  big : h.objs.size ≤ dx
  ne : dx ≠ e
  ns : h'.Ns1 dx m
theorem err_made {fs : List Str} {vs : List Value} {m : Str → Option Value} (T : ErrC K mg x base C Cb fI fs B newId initId bmB) (X : K.In s.heap) (hlim : s.heap.NoLimit) (hglo : s.heap.Ns mainGlobals mg) (hroom : A.depth + 1 < recursionLimit) (hz : vs.length ≤ sizeLine)
    (init : ∀ {A : Around} {R : Result → Shared → Prop} {s : Shared} {e t0 : Addr}, K.In s.heap → s.heap.NoLimit → s.heap.Ns mainGlobals mg → s.heap.get? e = some (excO C t0) → K.lookup e = none → A.depth < recursionLimit →
      (∀ h' tk dx t1, EInit s.heap h' e C dx t1 m → R (.ok (.ret .none)) { s with heap := h', toks := tk }) → codeAny (model prog w) A (.call (.ref fI) ⟨.ref e :: vs, []⟩) R s)
    (k : ∀ h' tk e dx, EMade s.heap h' e C dx m → R (.ok (.ret (.ref e))) { s with heap := h', toks := tk }) : codeAny (model prog w) A (.call (.ref C) ⟨vs, []⟩) R s := by
  obtain ⟨nm, q, N, bs, bm, sn, sub, ab, col, dd, k0, k1, k2, k3, k5, hC, hbm⟩ := T.cls
  obtain ⟨hp, g, dr, tk, os⟩ := s
  have up : ∀ b o, hp.get? b = some o → ((hp.push (kdv_tup vs)).push (excO C hp.objs.size)).get? b = some o := fun b o z => Heap.get?_push_of_some _ (Heap.get?_push_of_some _ z)
  have at_ : ((hp.push (kdv_tup vs)).push (excO C hp.objs.size)).get? (hp.objs.size + 1) = some (excO C hp.objs.size) := by
    have z := Heap.get?_push_size (hp.push (kdv_tup vs)) (o := excO C hp.objs.size) rfl
    rw [Heap.size_push] at z
    exact z
  have fresh : K.lookup (hp.objs.size + 1) = none := by
    cases z : K.lookup (hp.objs.size + 1) with
    | none => rfl
    | some o => exact absurd (Heap.lt_size (X _ _ z)) (Nat.not_lt.mpr (Nat.le_succ hp.objs.size))
  refine call_own T.FB (fun Y => excTail_contains Y bm hbm) (X _ _ hC) (looks_findIn X T.iC) (fun self => bind_fn X self T.tC) hz ?_
  refine init (s := ⟨(hp.push (kdv_tup vs)).push (excO C hp.objs.size), g, dr, tk, os⟩) (X.keeps up) (hlim.keeps up) (hglo.keeps up) at_ fresh (show A.depth + 1 < recursionLimit from hroom) fun h' tk' dx t1 M => ?_
  have old : ∀ b o, hp.get? b = some o → h'.get? b = some o := fun b o z => M.keep b o (Nat.ne_of_lt (Nat.lt_succ_of_lt (Heap.lt_size z))) (up b o z)
  have big : hp.objs.size + 1 + 1 ≤ dx := by
    have z := M.big
    rw [Heap.size_push, Heap.size_push] at z
    exact z
  exact ⟨rfl, k h' tk' (hp.objs.size + 1) dx ⟨old, Nat.le_succ _, ⟨_, _, M.obj, rfl, rfl, rfl, rfl⟩, Nat.le_trans (Nat.le_trans (Nat.le_succ _) (Nat.le_succ _)) big, M.ne, M.ns⟩⟩
end

section
variable {X : Cx} {x base f : Str} {C Cb fI : Addr} {B newId initId : String} {bmB : List Value}
/-- raise C(e) -/
def dRaise1 (E : DXS) (n f : Str) (t : DTA) : DTS := fun _ σ h => t σ h fun xs h1 => match fzs xs h1 with
  | some ([d], h2) => E ⟨n, [(f, d)]⟩ σ h2
  | _ => False
end
end DL

namespace DL
open PySem PySem.Spec PyProof.Rows L2
set_option autoImplicit true

theorem RM.un {K : PySem.W.Frag} {H H0 : Hp} {h h0 : MH} (r : RM K (Γ.at H0 h0) H h) : RM K Γ H h := ⟨r.ob, r.g.1, r.nx, r.tb⟩
theorem RM.unE {K K' : PySem.W.Frag} {H : Hp} {h : MH} {y : DExc} {cls : Value} {d : Option Addr} (r : RM K (Γ.exc K' y cls d) H h) : RM K Γ H h := ⟨r.ob, r.g.1, r.nx, r.tb⟩
def dWas (kt : Str → Str → Option Bool) (n : Str) (i : Nat) (ts : Addr → DExc → DTS) (Eo : DXS) (D : DEnds) : DXS := fun y σ h => ∃ b, kt y.cls n = some b ∧
  (b = true → ∀ a, h a = none → ts a y (clrN i D) (σ.set i (some (.own a))) h) ∧ (b = false → Eo y σ h)
def dTryAs (kt : Str → Str → Option Bool) (n : Str) (i : Nat) (tb : DXS → DTS) (ts : Addr → DExc → DTS) (Eo : DXS) : DTS := fun D σ h =>
  ∃ (E0 : DXS) (D0 : DEnds), (∀ y σ' h', E0 y σ' h' → dWas kt n i ts Eo D y σ' h') ∧ DEnds.Le D0 D ∧ tb E0 D0 σ h
theorem tryAs_mk {kt : Str → Str → Option Bool} {n : Str} {i : Nat} {tb : DXS → DTS} {ts : Addr → DExc → DTS} {Eo : DXS} {D : DEnds} {σ : DSt} {h : MH} (w : tb (dWas kt n i ts Eo D) D σ h) : dTryAs kt n i tb ts Eo D σ h := ⟨_, _, fun _ _ _ z => z, le_refl, w⟩
theorem le_trans {A B C : DEnds} (p : DEnds.Le A B) (q : DEnds.Le B C) : DEnds.Le A C := ⟨fun _ _ z => q.nx _ _ (p.nx _ _ z), fun _ _ z => q.rt _ _ (p.rt _ _ z), fun _ _ z => q.bk _ _ (p.bk _ _ z), fun _ _ z => q.ct _ _ (p.ct _ _ z)⟩
section
variable {X : Cx} {x n : Str} {cv : Value} {i : Nat} {body suite : List Stmt} {b₀ : Stmt} {np pos pos' : Pos} {kt : Str → Str → Option Bool} {tb : DXS → DTS} {ts : Addr → DExc → DTS} {Eo : DXS}
end

theorem inst_of {X : Cx} {a D : Addr} {oe : Obj} {d : Option Addr} {pn pins : List (Addr × Obj)} {σ : L2.St} {H : Hp} {s : Shared} (I : Inv (X.suite a ((a, oe) :: pn)) pins σ H s) (hz : Zc (.ref D) d oe) (hf : ∃ vs, oe.data = .fields vs) (hd : d = none ∨ ∃ dd fs, d = some dd ∧ H dd = some (.xd fs)) :
    ∃ od, PySem.W.InstAt s.heap a oe D od := by
  obtain ⟨ha, _⟩ := I.pin (a, oe) (List.mem_append_left _ List.mem_cons_self)
  obtain ⟨vs, hv⟩ := hf
  rcases hd with e | ⟨dd, fs, e, ea⟩
  · subst e
    exact ⟨none, ha, hz.1, by unfold PySem.W.notCls; rw [hv] <;> rfl, by rw [hz.2]; trivial⟩
  · subst e
    obtain ⟨mA, hns, hr⟩ := (show ObjOk X.prog X.w H s.heap dd (.xd fs) from I.hok dd _ ea)
    obtain ⟨od, ho, hl⟩ := lookIn_ns hns
    exact ⟨some od, ha, hz.1, by unfold PySem.W.notCls; rw [hv] <;> rfl, by rw [hz.2]; exact ho⟩
theorem kit_exc {K : PySem.W.Frag} {x D : Addr} {ox : Obj} {od : Option Obj} (C : ExcC K D) : PySem.W.KitX K (.ref x) (.ref D) (fun h => PySem.W.InstAt h x ox D od) :=
  PySem.W.kitx_exc (by obtain ⟨cd, hc, _⟩ := PySem.W.any_some C.hd; rw [hc]; rfl) C.hg C.hk C.hs C.ha C.hn C.ht C.hm
def heldD (H : Hp) (d : Option Addr) : Prop := d = none ∨ ∃ dd fs, d = some dd ∧ H dd = some (.xd fs)
def rIsX (K : PySem.W.Frag) (D a : Addr) (d : Option Addr) : List V → Hp → VK → Prop := fun xs H Q => ∃ (c : V) (cv : Value) (b : Bool), xs = [.ref a, c] ∧ ClsV c cv ∧ ExcC K D ∧ PySem.W.kitOne K (.ref D) cv = some b ∧ heldD H d ∧ Q (.bl b) H
theorem call_isX {X : Cx} {a D : Addr} {oe : Obj} {d : Option Addr} {pn : List (Addr × Obj)} (hz : Zc (.ref D) d oe) (hf : ∃ vs, oe.data = .fields vs) : CallR (X.suite a ((a, oe) :: pn)) (.builtin "isinstance") (rIsX X.K D a d) := by
  intro pins s σ H xs us Q I r h
  obtain ⟨c, cv, b, rfl, hcv, C, e, hd, q⟩ := h
  obtain ⟨u1, u2, rfl, r1, r2⟩ := vals2 r
  cases (show u1 = Value.ref a from r1)
  have ec := hcv.eq r2
  subst ec
  obtain ⟨od, J⟩ := inst_of I hz hf hd
  exact PySem.W.kia_one (kit_exc C) I.kIn J e (fun z => nomatch z) fun tk => ⟨.bl b, H, I.tok tk, rfl, q⟩
def rIsXT (K : PySem.W.Frag) (D a : Addr) (d : Option Addr) : List V → Hp → VK → Prop := fun xs H Q => ∃ (tp : Addr) (cs : List V) (us : List Value) (b : Bool), xs = [.ref a, .ref tp] ∧ H tp = some (.tup cs) ∧ Paired ClsV cs us ∧ ExcC K D ∧ PySem.W.kitAny K (.ref D) us = some b ∧ heldD H d ∧ Q (.bl b) H
theorem call_isXT {X : Cx} {a D : Addr} {oe : Obj} {d : Option Addr} {pn : List (Addr × Obj)} (hz : Zc (.ref D) d oe) (hf : ∃ vs, oe.data = .fields vs) : CallR (X.suite a ((a, oe) :: pn)) (.builtin "isinstance") (rIsXT X.K D a d) := by
  intro pins s σ H xs us Q I r h
  obtain ⟨tp, cs, ws, b, rfl, hT, k, C, e, hd, q⟩ := h
  obtain ⟨u1, u2, rfl, r1, r2⟩ := vals2 r
  cases (show u1 = Value.ref a from r1)
  cases (show u2 = Value.ref tp from r2)
  obtain ⟨od, J⟩ := inst_of I hz hf hd
  obtain ⟨_, its, rv, o, h1, h2, n, h3⟩ := (show ObjOk X.prog X.w H s.heap tp (.tup cs) from I.hok tp _ hT)
  have e3 := ClsV.all k rv
  subst e3
  obtain ⟨oc, od', dt, sl⟩ := o
  simp only at h2 h3
  subst h2 h3
  exact PySem.W.kia_tup (kit_exc C) I.kIn J h1 e (fun z => nomatch z) fun tk => ⟨.bl b, H, I.tok tk, rfl, q⟩
/-- names of classes -/
structure DC (X : Cx) (e : Expr) (n : Str) : Prop where
  pe : ∃ c, PE X e (tC c) ∧ ClsV c (cvK X.K n)
structure DCs (X : Cx) (es : List Expr) (ns : List Str) : Prop where
  pa : ∃ cs, PA X es (fun _ H Q => Q cs H) ∧ Paired ClsV cs (ns.map (cvK X.K))
section
variable {X : Cx} {n x : Str} {pos p : Pos} {e : Expr} {es : List Expr} {ns : List Str}
theorem dc_own (hg : Gl X n) (hm : X.mg n = some (.ref (He.ga X.K n))) (hd : (n == ("__debug__" : Str)) = false := by decide) (hb : btV n = none := by decide +kernel) : DC X (.Name n pos) n := ⟨.ref (He.ga X.K n), pe_glob hg hm rfl hd, by
  unfold cvK
  rw [hb]
  exact .own _⟩
theorem dc_bt {t : String} (hg : Gl X n) (hm : X.mg n = none) (hv : bootBuiltins n = some (.type t)) (hb : btV n = some (.type t)) (hn : n ≠ "__name__" := by decide) (hd : (n == ("__debug__" : Str)) = false := by decide) : DC X (.Name n pos) n := ⟨.ty t, pe_bltn hg hm hv rfl hn hd, by
  unfold cvK
  rw [hb]
  exact .ty t⟩
theorem dcs_nil : DCs X [] [] := ⟨[], pa_imp (t := tNil) pa_nil fun _ _ _ w => w, .nil⟩
theorem dcs_cons (h1 : DC X e n) (h2 : DCs X es ns) (hs : starEach (e :: es) X.env = (false, eval e X.env) :: starEach es X.env := by rfl) : DCs X (e :: es) (n :: ns) := by
  obtain ⟨c, p1, k1⟩ := h1.pe
  obtain ⟨cs, p2, k2⟩ := h2.pa
  exact ⟨c :: cs, pa_imp (pa_cons p1 p2 hs) fun _ _ _ w => w, .cons k1 k2⟩
end
theorem held_of {K : PySem.W.Frag} {H : Hp} {h : MH} {y : DExc} {cls : Value} {d : Option Addr} {xs : List Addr} {T : List (Addr × Str)} (r : RX K (G0 xs T) H h y cls d) : heldD H d := by
  rcases r.2 with ⟨e, _⟩ | ⟨dd, vs, e, f, _⟩
  · exact .inl e
  · exact .inr ⟨dd, vs, e, (Fz.to f).1⟩
def dIsX (kt : Str → Str → Option Bool) (i : Nat) (a : Addr) (y : DExc) (n : Str) : DTE := fun σ h Q => slot σ i = some (.own a) ∧ match kt y.cls n with
  | some b => Q (.d (.bool b)) h
  | none => False
def dIsXT (kt : Str → Str → Option Bool) (i : Nat) (a : Addr) (y : DExc) (n : Str) (ns : List Str) : DTE := fun σ h Q => slot σ i = some (.own a) ∧ (kt y.cls n).isSome = true ∧ (ns.length + 1 ≤ sizeLine) ∧ match anyK kt y.cls (n :: ns) with
  | some b => Q (.d (.bool b)) h
  | none => False
def dXf (xt : Str → Str → Bool) (i : Nat) (a : Addr) (y : DExc) (f : Str) : DTE := fun σ h Q => slot σ i = some (.own a) ∧ xt y.cls f = true ∧ match y.fs.lookup f with
  | some d => Q (.d d) h
  | none => False
theorem own_at {K : PySem.W.Frag} {H : Hp} {h : MH} {σd : DSt} {σ : L2.St} {i : Nat} {a : Addr} (rs : RSt K Γ H h σd σ) (e : slot σd i = some (.own a)) : σ[i]? = some (some (.ref a)) := by
  obtain ⟨v, e1, e2⟩ := rs.2 i _ (slot_get e)
  cases (show v = V.ref a from e2)
  exact e1
section
variable {X : Cx} {Γ1 : GI} {kt : Str → Str → Option Bool} {xt : Str → Str → Bool} {a : Addr} {oe : Obj} {y : DExc} {d : Option Addr} {pn : List (Addr × Obj)} {x n f : Str} {pos p p1 p2 : Pos} {c e : Expr} {es : List Expr} {ns : List Str}
theorem de_isX (i : Nat) (T : KitE X.K kt xt) (hz : Zc (.ref (He.ga X.K y.cls)) d oe) (hf : ∃ vs, oe.data = .fields vs) (hg : Gl (X.suite a ((a, oe) :: pn)) "isinstance") (hm : X.mg "isinstance" = none) (hc : DC (X.suite a ((a, oe) :: pn)) c n)
    (hN : X.N[i]? = some x := by rfl) (hv : Vis X.env.scope x := by first | exact Or.inl rfl | exact Or.inr (Or.inl rfl) | exact Or.inr (Or.inr rfl)) (hd : (x == ("__debug__" : Str)) = false := by decide) (hcd : (x == ("__classdict__" : Str)) = false := by decide)
    (he : starEach [.Name x p1, c] X.env = (false, eval (.Name x p1) X.env) :: starEach [c] X.env := by rfl) (he2 : starEach [c] X.env = (false, eval c X.env) :: starEach [] X.env := by rfl) (hpl : (backTo pos (starEach [c] X.env)).any (·.1) = false := by rfl) :
    DE (X.suite a ((a, oe) :: pn)) (Γ1.exc X.K y (.ref (He.ga X.K y.cls)) d) (.Call (.Name "isinstance" p) [.Name x p1, c] [] pos) (dIsX kt i a y n) := by
  obtain ⟨v, pc, k⟩ := hc.pe
  refine ⟨fun σ h Q Q' kq w => ⟨w.1, ?_⟩, pe_imp (pe_callB (call_isX hz hf) hg hm rfl (pa_cons (pe_var (X := X.suite a ((a, oe) :: pn)) hN hv hd hcd) (pa_cons pc pa_nil he2) he) (by decide) (by decide) he hpl) fun σ H Q ⟨σd, h, rs, rm, w0, w⟩ => ?_⟩
  · have w2 := w.2
    split at w2
    · exact kq _ _ w2
    · exact w2
  · split at w
    · rename_i b e
      exact ⟨.ref a, own_at rs w0, v, _, b, rfl, k, T.exc _ _ _ e, T.kit _ _ _ e, held_of rm.g.2, w _ _ PX.refl (Dp.bl b) rm⟩
    · exact w.elim
theorem de_isXT {kk} (i : Nat) (T : KitE X.K kt xt) (hz : Zc (.ref (He.ga X.K y.cls)) d oe) (hf : ∃ vs, oe.data = .fields vs) (hg : Gl (X.suite a ((a, oe) :: pn)) "isinstance") (hm : X.mg "isinstance" = none) (hc : DCs (X.suite a ((a, oe) :: pn)) es (n :: ns))
    (hN : X.N[i]? = some x := by rfl) (hv : Vis X.env.scope x := by first | exact Or.inl rfl | exact Or.inr (Or.inl rfl) | exact Or.inr (Or.inr rfl)) (hd : (x == ("__debug__" : Str)) = false := by decide) (hcd : (x == ("__classdict__" : Str)) = false := by decide)
    (he : starEach [.Name x p1, .Tuple es kk p2] X.env = (false, eval (.Name x p1) X.env) :: starEach [.Tuple es kk p2] X.env := by rfl) (he2 : starEach [.Tuple es kk p2] X.env = (false, eval (.Tuple es kk p2) X.env) :: starEach [] X.env := by rfl) (hpl : (backTo pos (starEach [.Tuple es kk p2] X.env)).any (·.1) = false := by rfl) :
    DE (X.suite a ((a, oe) :: pn)) (Γ1.exc X.K y (.ref (He.ga X.K y.cls)) d) (.Call (.Name "isinstance" p) [.Name x p1, .Tuple es kk p2] [] pos) (dIsXT kt i a y n ns) := by
  obtain ⟨vs, pc, k⟩ := hc.pa
  refine ⟨fun σ h Q Q' kq w => ⟨w.1, w.2.1, w.2.2.1, ?_⟩, pe_imp (pe_callB (call_isXT hz hf) hg hm rfl (pa_cons (pe_var (X := X.suite a ((a, oe) :: pn)) hN hv hd hcd) (pa_cons (pe_tup pc) pa_nil he2) he) (by decide) (by decide) he hpl) fun σ H Q ⟨σd, h, rs, rm, w0, w1, w3, w⟩ => ?_⟩
  · have w2 := w.2.2.2
    split at w2
    · exact kq _ _ w2
    · exact w2
  · split at w
    · rename_i b e
      obtain ⟨b1, e1⟩ := Option.isSome_iff_exists.mp w1
      have hl : vs.length = ns.length + 1 := by
        have z := k.length
        rw [List.length_map] at z
        exact z
      refine ⟨.ref a, own_at rs w0, by rw [hl]; exact w3, fun q hq => ?_⟩
      refine ⟨q, vs, _, b, rfl, upd_same, k, T.exc _ _ _ e1, T.any e, ?_, w _ _ (rm.px hq) (Dp.bl b) (RM.new hq rm)⟩
      rcases held_of rm.g.2 with z | ⟨dd, fs, z1, z2⟩
      · exact .inl z
      · exact .inr ⟨dd, fs, z1, by rw [upd_ne fun z => by rw [z, hq] at z2; cases z2]; exact z2⟩
    · exact w.elim
theorem paired_look {K : PySem.W.Frag} {F : Hp} {f : Str} {dv : PyData} : ∀ {fs : List (Str × PyData)} {vs : List (Str × V)}, Paired (fun (p : Str × PyData) (q : Str × V) => p.1 = q.1 ∧ Dp K F q.2 p.2) fs vs → fs.lookup f = some dv → ∃ v, vs.lookup f = some v ∧ Dp K F v dv
  | _, _, .nil, h => by cases h
  | (a, b) :: _, (c, e) :: _, .cons z t, h => by
    obtain ⟨z1, z2⟩ := z
    dsimp only at z1 z2
    subst z1
    by_cases q : (f == a) = true
    · simp only [List.lookup, q] at h ⊢
      cases h
      exact ⟨_, rfl, z2⟩
    · have q' : (f == a) = false := by simpa using q
      simp only [List.lookup, q'] at h ⊢
      exact paired_look t h
theorem de_xf (i : Nat) (T : KitE X.K kt xt) (hz : Zc (.ref (He.ga X.K y.cls)) d oe) (hf : ∃ vs, oe.data = .fields vs) (hN : X.N[i]? = some x := by rfl) (hv : Vis X.env.scope x := by first | exact Or.inl rfl | exact Or.inr (Or.inl rfl) | exact Or.inr (Or.inr rfl)) (hd : (x == ("__debug__" : Str)) = false := by decide) (hcd : (x == ("__classdict__" : Str)) = false := by decide)
    (hb : attributeBase (.Name x p1) f X.env (eval (.Name x p1) X.env) = eval (.Name x p1) X.env := by rfl) :
    DE (X.suite a ((a, oe) :: pn)) (Γ1.exc X.K y (.ref (He.ga X.K y.cls)) d) (.Attribute (.Name x p1) f pos) (dXf xt i a y f) := by
  refine ⟨fun σ h Q Q' kq w => ⟨w.1, w.2.1, ?_⟩, ?_⟩
  · have w2 := w.2.2
    split at w2
    · exact kq _ _ w2
    · exact w2
  · by_cases hx : xt y.cls f = true
    · obtain ⟨T1, T2⟩ := T.xf _ _ hx
      refine pe_imp (pe_xf T1 T2 hz hf (pe_var (X := X.suite a ((a, oe) :: pn)) hN hv hd hcd) hb) fun σ H Q ⟨σd, h, rs, rm, w0, _, w⟩ => ?_
      split at w
      · rename_i dv e
        refine ⟨.ref a, own_at rs w0, rfl, rfl, ?_⟩
        rcases rm.g.2.2 with ⟨_, z⟩ | ⟨dd, vs, z1, z2, z3⟩
        · rw [z] at e; cases e
        · obtain ⟨v, e1, e2⟩ := paired_look z3 e
          exact ⟨dd, vs, v, z1, (Fz.to z2).1, e1, w v H PX.refl e2 rm⟩
      · exact w.elim
    · exact ⟨fun pins s σ H Q I ⟨σd, h, rs, rm, w0, w1, w⟩ => absurd w1 hx⟩
end
end DL

namespace DL
open PySem PySem.Spec PyProof.Rows L2
set_option autoImplicit true

theorem clsB_ok {K : PySem.W.Frag} {C : Addr} {bmB : List Value} {newId : String} (q : clsB K C bmB newId = true) : ∃ nm q N bs bm sn sub ab col dd k0 k1 k2 k3 k5, K.lookup C = some (PySem.excClassObj nm q C N bs bm true sn sub ab col dd k0 k1 k2 k3 k5 newId) ∧ PySem.W.excTail bmB bm = true := by
  unfold clsB at q
  split at q
  · rename_i dd cd sl ho
    split at q
    · rename_i C' bm k0 k1 k2 k3 n k5 hm hs
      simp only [Bool.and_eq_true, beq_iff_eq, Bool.not_eq_true'] at q
      obtain ⟨rfl, rfl, hdel, hd0, ht⟩ := q
      obtain ⟨nm, bs, mro, ns, qn, hd, sn, sub, ab, col, del⟩ := cd
      dsimp only at hm hdel hd0
      subst hm hdel hd0
      have hsl : sl = #[k0, k1, k2, k3, some (.builtin n), k5] := by
        obtain ⟨l⟩ := sl
        simp only at hs
        rw [hs]
      subst hsl
      exact ⟨nm, qn, ns, bs, bm, sn, sub, ab, col, dd, k0, k1, k2, k3, k5, ho, ht⟩
    · cases q
  · cases q
theorem fcB_ok {K : PySem.W.Frag} {Cb : Addr} {initId : String} (q : fcB K Cb initId = true) : PySem.W.findCls K (.ref Cb) (.type "type") "__init__" = some (.val (.builtin initId)) := by
  unfold fcB at q
  split at q
  · rename_i i e
    rw [e, beq_iff_eq.mp q]
  · cases q
theorem errB_ok {K : PySem.W.Frag} {mg : Str → Option Value} {x base : Str} {fs : List Str} {B newId initId : String} {bmB : List Value} (FB : PySem.ExcBaseFacts B newId initId bmB) (SF : PySem.StoreFacts B bmB "object.__setattr__" "object") (hI : PySem.W.handedIn (.builtin initId) = true)
    (gC : mg x = some (.ref (He.ga K x))) (gB : mg base = some (.ref (He.ga K base))) (h : errB K x base fs bmB newId initId = true) : ErrC K mg x base (He.ga K x) (He.ga K base) (He.ma K (He.ga K x) "__init__") fs B newId initId bmB := by
  unfold errB at h
  simp only [Bool.and_eq_true, decide_eq_true_eq, List.all_eq_true] at h
  obtain ⟨h1, h2, h3, h4, h5, h6, h7, h8, h9, h10, h11, h12, h13, h14, h15⟩ := h
  exact ⟨gC, gB, clsB_ok h1, FB, SF, h2, h3, h4, h5, fun f hf => (h6 f hf).1, fun f hf => (h6 f hf).2, h7, h8, h9, h10, h11, h12, h13, h14, hI, fcB_ok h15⟩
theorem names_own {X : Cx} {x : Str} (hm : X.mg x = some (.ref (He.ga X.K x))) (hg : Gl X x := by rfl) (hd : (x == ("__debug__" : Str)) = false := by decide) (hb : btV x = none := by decide +kernel) : Names X x (cvK X.K x) := ⟨hg, hd, .inl (by
  unfold cvK
  rw [hb]
  exact hm)⟩
theorem excB_ok {K : PySem.W.Frag} {D : Addr} (h : excB K D = true) : ExcC K D := by
  unfold excB at h
  simp only [Bool.and_eq_true, decide_eq_true_eq] at h
  obtain ⟨h1, h2, h3, h4, h5, h6, h7, h8⟩ := h
  exact ⟨h1, h2, h3, h4, h5, h6, h7, h8⟩
theorem kitLB_ok {K : PySem.W.Frag} {kl : List (Str × Str × Bool)} {xl : List (Str × Str)} (h : kitLB K kl xl = true) : KitE K (ktL kl) (xtL xl) := by
  unfold kitLB at h
  obtain ⟨h1, h2⟩ := Bool.and_eq_true_iff.mp h
  have g1 : ∀ c n b, ktL kl c n = some b → ExcC K (He.ga K c) ∧ PySem.W.exmOne K (.ref (He.ga K c)) (cvK K n) = some b ∧ PySem.W.kitOne K (.ref (He.ga K c)) (cvK K n) = some b := fun c n b e => by
    unfold ktL at e
    obtain ⟨p, e1, e2⟩ := Option.map_eq_some_iff.mp e
    have m := List.mem_of_find?_eq_some e1
    have q := List.find?_some e1
    simp only [Bool.and_eq_true, beq_iff_eq] at q
    obtain ⟨rfl, rfl⟩ := q
    subst e2
    have z := List.all_eq_true.mp h1 p m
    simp only [Bool.and_eq_true, decide_eq_true_eq] at z
    exact ⟨excB_ok z.1, z.2.1, z.2.2⟩
  refine ⟨fun c n b e => (g1 c n b e).1, fun c n b e => (g1 c n b e).2.1, fun c n b e => (g1 c n b e).2.2, fun c f e => ?_⟩
  obtain ⟨p, m, q⟩ := List.any_eq_true.mp e
  simp only [Bool.and_eq_true, beq_iff_eq] at q
  obtain ⟨rfl, rfl⟩ := q
  have z := List.all_eq_true.mp h2 p m
  simp only [Bool.and_eq_true, decide_eq_true_eq] at z
  exact ⟨xfB_ok z.1, z.2⟩
/-- THE LAW'S WALK, by hookY -/
theorem walk_gY {l : PySem.W.OpenLaw} {n m k : Nat} {q : Program} {loose : List Str} {XP : (Str → Option Value) → Heap → Prop} {d : DefRec} {x : Str} {fas : List He.Fa} {fns : List He.DefD} {tf : List He.Defn} {nm : He.Defn → Str} {ex : PySem.W.Frag → Bool} {W : DSp}
    (hn : l.most = some n) (hn2 : n ≤ sizeLine) (hdf : d.params.defaults = []) (hr : Room k callerA)
    (F : ∀ (w : World) (mg : Str → Option Value) (fa : Addr) (h : Heap) (K : PySem.W.Frag), K.In h → h.Ns mainGlobals mg → mg d.name = some (.ref fa) → He.SaysX fas fns [] tf ex w h K →
      ∃ fd : FuncData, (∀ (s : Shared) (u : Value), BindsTo s fd ⟨[u], []⟩ [(x, u)]) ∧ ∀ base : Heap, K.In base → base.Ns mainGlobals mg → (∀ c ∈ tf.map (He.cT K), LamX.TabB base mg c.1 c.2) → FnG l.prog w K mg base (tabsT K tf nm) k fa fd [x] W)
    (hw : ∀ ns : List Int, ns.length ≤ n → (∀ z ∈ ns, Builtin.Int.intBits z ≤ 1048576) → W [.d (.list (ns.map PyData.int))] (fun _ => none) (fun r _ => r = .d (.bool true)) fun _ _ => False) :
    PySem.W.WalkO q loose XP (hookY m fas fns [] tf ex).says l.row.toRowW d [] (fun f vs => PySem.call f vs) := walk_g (m := m) (nm := nm) hn hn2 hdf hr F hw
end DL

namespace DL
open PySem PySem.Spec PyProof.Rows L2
set_option autoImplicit true

/-- which of the left out ones (false), of the keywords' (true) -/
def pick {α : Type} : List (Bool × Nat) → List α → List α → List α
  | [], _, _ => []
  | (b, i) :: r, ms, ws => match (if b = true then ws else ms)[i]? with
    | some x => x :: pick r ms ws
    | none => pick r ms ws
/-- a default that is no object -/
def cvV : PyData → V
  | .bool b => .bl b
  | .int i => .int i
  | _ => .non
/-- a def's calling shape: n values by their places, keywords ks, the others by their defaults dm -/
structure Shape where
  n : Nat
  ks : List Str
  dm : List PyData
  cs : List (Bool × Nat)
def FnK (P : Program) (w : World) (K : PySem.W.Frag) (mg : Str → Option Value) (base : Heap) (T : List (Addr × Str)) (k : Nat) (x : Str) (ps : List Str) (z : Shape) (W : DSp) : Prop :=
  ∃ f fd mv, FnG P w K mg base T k f fd ps W ∧ PySem.W.keepIn K (.ref f) = true ∧ KBn K fd ps z.n z.ks (fun us ws => us ++ pick z.cs mv ws) (fun vs zs => vs ++ pick z.cs (z.dm.map cvV) zs) ∧ mg x = some (.ref f)
theorem FnK.up {P : Program} {w : World} {K : PySem.W.Frag} {mg : Str → Option Value} {base : Heap} {T : List (Addr × Str)} {j k : Nat} {x : Str} {ps : List Str} {z : Shape} {W : DSp} (F : FnK P w K mg base T j x ps z W) (h : j ≤ k) : FnK P w K mg base T k x ps z W := by
  obtain ⟨f, fd, mv, a, b⟩ := F
  exact ⟨f, fd, mv, a.up h, b⟩
def dCallK (E : DXS) (W : DSp) (z : Shape) (t tk : DTA) : DTE := fun σ h Q => t σ h fun xs h1 => tk σ h1 fun zs h2 => xs.length = z.n ∧ zs.length = z.ks.length ∧ W (xs ++ pick z.cs (z.dm.map SV.d) zs) h2 Q fun x h3 => E x σ h3
section
variable {X : Cx} {k : Nat} {ps : List Str} {W : DSp} {E : DXS} {x : Str} {p pos : Pos} {e : Expr} {es : List Expr} {kws : List Keyword} {t tk : DTA} {T : List (Addr × Str)} {z : Shape}
end
end DL

namespace DL
open PySem PySem.Spec PyProof.Rows L2
open RZ (ItzT pi_zipA)
set_option autoImplicit true

def tyN : PyData → String
  | .none => "NoneType"
  | .bool _ => "bool"
  | .int _ => "int"
  | .str _ => "str"
  | .list _ => "list"
  | .tuple _ => "tuple"
  | .dict _ => "dict"
theorem tyx_of {K : PySem.W.Frag} {H : Hp} {v : V} {d : PyData} (r : Dp K H v d) : TyX K H v (.type (tyN d)) := by
  cases r with
  | non => exact .base .non
  | bl b => exact .base (.bl b)
  | int i => exact .base (.int i)
  | str x => exact .base (.str x)
  | lst h _ =>
    rcases h with (e | ⟨o, e⟩) | ⟨o, its, n, e, c, _⟩
    · exact .base (.lst e)
    · exact .base (.frz e)
    · exact .kList e c
  | tup h _ =>
    rcases h with (e | ⟨o, e⟩) | ⟨o, its, n, e, c, _⟩
    · exact .base (.tup e)
    · exact .fTuple e
    · exact .kTuple e c
def dIsT (te : DTE) (n : String) : DTE := fun σ h Q => te σ h fun x h1 => match asD h1 x with
  | some d => (match kitB (tyN d) n with
    | some b => Q (.d (.bool b)) h1
    | none => False)
  | none => False
section
variable {X : Cx} {e : Expr} {x : Str} {n : String} {p p2 pos : Pos} {te : DTE}
theorem de_isT (he : DE X Γ e te) (hg : Gl X "isinstance") (hm : X.mg "isinstance" = none) (hg2 : Gl X x) (hm2 : X.mg x = none) (hv2 : bootBuiltins x = some (.type n)) (hn : x ≠ "__name__" := by decide) (hd : (x == ("__debug__" : Str)) = false := by decide)
    (he1 : starEach [e, .Name x p2] X.env = (false, eval e X.env) :: starEach [.Name x p2] X.env := by rfl) (he2 : starEach [.Name x p2] X.env = (false, eval (.Name x p2) X.env) :: starEach [] X.env := by rfl) (hpl : (backTo pos (starEach [.Name x p2] X.env)).any (·.1) = false := by rfl) :
    DE X Γ (.Call (.Name "isinstance" p) [e, .Name x p2] [] pos) (dIsT te n) := by
  refine ⟨fun σ h Q Q' k w => he.mono _ _ _ _ (fun y h1 w1 => ?_) w, pe_imp (pe_callB call_isi hg hm rfl (pa_cons he.pe (pa_cons (pe_bltn hg2 hm2 hv2 (v := .ty n) rfl hn hd) pa_nil he2) he1) (by decide) (by decide) he1 hpl) fun σ H Q ⟨σd, h, rs, rm, w⟩ => ?_⟩
  · split at w1
    · split at w1
      · exact k _ _ w1
      · exact w1
    · exact w1
  · refine lift_mk he.mono rs rm w fun y h1 v H1 px rs1 rv rm1 w1 => ?_
    split at w1
    · rename_i d e1
      split at w1
      · rename_i b e2
        exact ⟨v, .ty n, .type (tyN d), .type n, b, rfl, .ty n, tyx_of (asD_ok rv rm1 e1), kit_ty e2, w1 (.bl b) H1 px rv_bl rm1⟩
      · exact w1.elim
    · exact w1.elim
end

def zipD (ds es : List PyData) : List PyData := (ds.zip es).map fun p => .tuple [p.1, p.2]
def wZip (ta tb : DTE) : DTI := fun σ h Q => ta σ h fun x h1 => tb σ h1 fun y h2 => match fz1 x h2 with
  | some (.list ds, h3) => (match fz1 y h3 with
    | some (.list es, h4) => Q (zipD ds es) h4
    | _ => False)
  | some (.tuple ds, h3) => (match fz1 y h3 with
    | some (.tuple es, h4) => Q (zipD ds es) h4
    | _ => False)
  | _ => False
section
variable {X : Cx} {a b : Expr} {p pos tpos : Pos} {elts : List Expr} {kk : Nat} {ta tb : DTE}
end

def dExt (to : DTE) (tF : DTF) : DTE := fun σ h Q => to σ h fun x h1 => match asL h1 x with
  | some _ => tF σ h1 fun ds h2 => (match ownL h2 x with
    | some (a, xs) => xs.length + ds.length ≤ sizeLine ∧ Q (.d .none) (mput h2 a (.lst (xs ++ ds)))
    | none => False)
  | none => False
section
variable {X : Cx} {e o : Expr} {apos cpos : Pos} {to : DTE} {tF : DTF}
end

theorem enum_new1 {v : Value} {o : Obj} {HH : Heap → Prop} (B : Begins v o HH) :
    Meets (Builtin.«enumerate.__new__» ⟨[.type "enumerate", v], []⟩) (fun _ R s => HH s.heap ∧ R (.ok (.ret (.ref (s.heap.push o).objs.size)))
      { s with heap := (s.heap.push o).push { cls := .type "enumerate", data := .fields #[.none, .bool false, .ref s.heap.objs.size, rawInt 0, .none, .none] } }) :=
  .of_wp fun prog w A R s h => by
    obtain ⟨hp, g, dr, tk, os⟩ := s
    obtain ⟨hb, h⟩ := h
    have hsub := sub_enumerate
    have it1 : ∀ {A1 : Around} {E1 Q1 : Value → Shared → Prop}, Q1 (.ref hp.objs.size) ⟨hp.push o, g, dr, tk, os⟩ → wpAny (model prog w) A1 (pyIter v) Q1 E1 ⟨hp, g, dr, tk, os⟩ := fun q => B.iter prog w _ _ ⟨hp, g, dr, tk, os⟩ _ hb q
    wp_walk using it1
    refine wpAny_stack_any fun st => wpAny_pure ?_
    split
    · rename_i c _ _ _ _ _
      cases (c == Value.type "enumerate") <;> (wp_walk using it1; exact ⟨_, rfl, h⟩)
    · wp_walk using it1
      exact ⟨_, rfl, h⟩
theorem call_enumB {prog : Program} {w : World} {A : Around} {E : Value → Shared → Prop} {s : Shared} {v : Value} {o : Obj} {HH : Heap → Prop} {Q : Value → Shared → Prop} (B : Begins v o HH) (hb : HH s.heap)
    (k : ∀ h', IsEnum h' (s.heap.objs.size + 1) s.heap.objs.size 0 .none → h'.get? s.heap.objs.size = some o → (∀ b u, s.heap.get? b = some u → h'.get? b = some u) → Q (.ref (s.heap.objs.size + 1)) { s with heap := h' }) :
    wpAny (model prog w) A (call (.type "enumerate") [v]) Q E s := by
  refine callType_new F.called_enumerate (by decide) (F.typeCall_enumerate_1 _) (F.newCall_enumerate_1 _) (fun obj => F.args_object_init_2 obj _) F.entry_enumerate_new (enum_new1 B) ⟨hb, ?_⟩
  have z : (s.heap.push o).objs.size = s.heap.objs.size + 1 := Heap.size_push ..
  show _ ∧ _
  rw [z]
  have en := Heap.get?_push_size (s.heap.push o) (o := { cls := .type "enumerate", data := .fields #[.none, .bool false, .ref s.heap.objs.size, rawInt 0, .none, .none] }) rfl
  rw [z] at en
  exact ⟨⟨_, en, rfl⟩, k _ en (Heap.get?_push_of_some _ (Heap.get?_push_size _ B.free)) fun b u x => Heap.get?_push_of_some _ (Heap.get?_push_of_some _ x)⟩
/-- the tuple at a, each item in a new pair -/
def IteT (K : PySem.W.Frag) (a : Addr) : It :=
  ⟨fun i H => ∃ (xs : List V) (x : V), SqT K H a xs ∧ xs[i]? = some x, fun i H v H' => ∃ T x, v = .ref T ∧ H T = none ∧ H' = upd H T (.tup [.int (i : Nat), x]) ∧ ∀ xs, SqT K H a xs → xs[i]? = some x, fun i H => ∃ xs : List V, SqT K H a xs ∧ xs.length = i⟩
theorem turn_enumT {P : Program} {w : World} {K : PySem.W.Frag} {elts : List Expr} {kk : Nat} {tpos : Pos} (a e it : Addr) :
    Turn P w K (.Tuple elts kk tpos) (IteT K a) [e, it] e (fun i h => (∃ old, IsEnum h e it ((i : Nat) : Int) old) ∧ h.IsTupleIter it a i ∧ e ≠ it) where
  mem := by simp
  obj := fun i h st b hb => by
    obtain ⟨⟨old, he⟩, ⟨o, ho, hc, hd⟩, _⟩ := st
    have e' : b = e ∨ b = it := by simpa using hb
    rcases e' with z | z
    · subst z; exact ⟨_, he, fun v q => nomatch q⟩
    · subst z; exact ⟨o, ho, fun v q => by rw [hd] at q; cases q⟩
  keep := fun i h h' st k => ⟨st.1.imp fun _ he => k e (by simp) _ he, st.2.1.at fun o q => k it (by simp) o q, st.2.2⟩
  item := by
    intro X hP hw hK hc i pins s σ H E I hf st hg
    subst hP hw hK
    obtain ⟨⟨old, he⟩, hit, hne⟩ := st
    obtain ⟨xs, x, hq, hx⟩ := hg
    obtain ⟨its, rv, p, hz⟩ := I.tuple hq
    have pt : s.heap.IsTuple a its.toArray := p
    obtain ⟨u, hu, ru⟩ := rv.get hx
    have hel : e < s.heap.objs.size := Heap.lt_size he
    have hil : it < s.heap.objs.size := by obtain ⟨_, q, _⟩ := hit; exact Heap.lt_size q
    have ai : a ≠ it := fun z => by
      obtain ⟨o1, q1, c1, _⟩ := id pt
      obtain ⟨o2, q2, c2, _⟩ := id hit
      rw [z, q2] at q1
      cases q1
      rw [c1] at c2
      revert c2
      decide
    have ea : e ≠ a := fun z => by
      obtain ⟨o1, q1, c1, _⟩ := id pt
      have q2 : s.heap.get? e = _ := he
      rw [z, q1] at q2
      cases q2
      have c2 : Value.type "enumerate" = Value.type "tuple" := c1
      revert c2
      decide
    have hlt : i < its.toArray.size := by
      have := (List.getElem?_eq_some_iff.mp hu).1
      simpa using this
    refine wpAny_pyNext_enum_itemC (Draws.tuple (A := X.A.in1) (I.ok.hd hc) it a ai its.toArray) he ⟨hit, pt⟩ hlt hne (by simp; exact ⟨hne, ea⟩) fun y h' tk hy ho st' hT hsz hk => ?_
    have ey : y = u := by
      have z : its.toArray[i]? = some u := by simpa using hu
      rw [z] at hy
      exact (Option.some.inj hy).symm
    subst ey
    refine ⟨_, rfl, wpAny_letOwnedTupleGo_enum (s := { s with heap := h', toks := tk + 1 }) ho fun h2 he2 sb => ?_⟩
    have hT2 : h2.get? s.heap.objs.size = some { cls := .type "tuple", data := .seq #[.int i tk, y] } := (sb.2 _ (Nat.ne_of_gt hel)).trans hT
    have new : ObjOk X.prog X.w (upd H s.heap.objs.size (.tup [.int (i : Nat), x])) h2 s.heap.objs.size (.tup [.int (i : Nat), x]) := ⟨by show 2 ≤ sizeLine; decide, [.int i tk, y], .cons ⟨_, rfl⟩ (.cons ru .nil), _, hT2, rfl, _, rfl⟩
    have I1 : Inv X pins σ (upd H s.heap.objs.size (.tup [.int (i : Nat), x])) { s with heap := h2, toks := tk + 1 } :=
      I.turnedNew (ch := [e, it]) (fun b ob hb q => (sb.2 b (fun z => hb (by simp [z]))).trans (hk b ob (fun z => hb (by simp [z])) (fun z => hb (by simp [z])) q)) hf (Nat.le_refl _) new
    refine ⟨.ref s.heap.objs.size, _, I1, rfl, ⟨_, x, rfl, I.hok.fresh (Nat.le_refl _), rfl, fun ys hy => by rw [I.tuple_inj hy hq]; exact hx⟩, ⟨⟨y, ?_⟩, st'.1.at fun o q => (sb.2 it (Ne.symm hne)).trans q, hne⟩, fun b hb => ?_⟩
    · rw [show ((i + 1 : Nat) : Int) = (i : Int) + 1 by omega]
      exact he2
    · have lt : b < s.heap.objs.size := by
        have e' : b = e ∨ b = it := by simpa using hb
        rcases e' with z | z
        · subst z; exact hel
        · subst z; exact hil
      rw [upd_ne (Nat.ne_of_lt lt)]
      exact (hf b hb).1
  done := by
    intro X hP hw hK hc i pins s σ H E I hf st hg
    subst hP hw hK
    obtain ⟨⟨old, he⟩, hit, hne⟩ := st
    obtain ⟨xs, hq, hx⟩ := hg
    obtain ⟨its, rv, p, hz⟩ := I.tuple hq
    have pt : s.heap.IsTuple a its.toArray := p
    have ai : a ≠ it := fun z => by
      obtain ⟨o1, q1, c1, _⟩ := id pt
      obtain ⟨o2, q2, c2, _⟩ := id hit
      rw [z, q2] at q1
      cases q1
      rw [c1] at c2
      revert c2
      decide
    obtain ⟨f0, f1, f2, f3, f4, f5⟩ := hf it (by simp)
    have hl := rv.length
    have ei : i = its.toArray.size := by simp; omega
    subst ei
    exact wpAny_pyNext_enum_endD (Draws.tuple (A := X.A.in1) (I.ok.hd hc) it a ai its.toArray) he ⟨hit, pt⟩ fun h' eb => ⟨rfl, I.turned (t' := s.toks) (fun b o hb q => eb b o hb q) f0 f1 f3 f4 f5⟩
  self := fun A i s Q E st h => wpAny_pyIter_enum (Classical.choose_spec st.1) h
def iEnumA (K : PySem.W.Frag) (ta : TA) : TI := fun σ H R => ta σ H fun vs H1 => ∃ a xs, vs = [.ref a] ∧ ((SqL K H1 a xs ∧ R (Ite K a) H1) ∨ (SqT K H1 a xs ∧ R (IteT K a) H1))
theorem pi_enumA {X : Cx} {e : Expr} {ta : TA} {p pos tpos : Pos} {elts : List Expr} {kk : Nat} (hg : Gl X "enumerate") (hm : X.mg "enumerate" = none) (ha : PA X [e] ta) (hs : starEach [e] X.env = [(false, eval e X.env)] := by rfl) :
    PI X (.Tuple elts kk tpos) (.Call (.Name "enumerate" p) [e] [] pos) (iEnumA X.K ta) := by
  refine ⟨fun pins s σ H R I h => ?_⟩
  refine Call_ (ld_blt I hg hm boot_enumerate (PyProof.Rows.callWith_type1 (thn (ha.run pos pins s σ H _ I h) fun us s1 ⟨vs, H1, I1, r1, q1⟩ => ?_) hs rfl))
  obtain ⟨a, xs, rfl, q1⟩ := q1
  rw [Vals.ref1 r1]
  have fresh : ∀ b, b ∈ [s1.heap.objs.size + 1, s1.heap.objs.size] → FpOk X pins H1 b := fun b hb => by
    have e' : b = s1.heap.objs.size + 1 ∨ b = s1.heap.objs.size := by simpa using hb
    have hle : s1.heap.objs.size ≤ b := by omega
    exact I1.fpOk hle (I1.hok.fresh hle)
  rcases q1 with ⟨hq, q⟩ | ⟨hq, q⟩
  · obtain ⟨its, rv, p', hz⟩ := I1.list hq
    refine call_enumB (begins_list a its.toArray) p'.isList fun h' he hit hk => wpAny_pyIter_enum he ?_
    exact ⟨s1.heap.objs.size + 1, [s1.heap.objs.size + 1, s1.heap.objs.size], _, _, H1, rfl, I1.kept (t' := s1.toks) hk, turn_enum a (s1.heap.objs.size + 1) s1.heap.objs.size, ⟨⟨.none, he⟩, ⟨_, hit, rfl, rfl⟩, Nat.succ_ne_self _⟩, fresh, q⟩
  · obtain ⟨its, rv, p', hz⟩ := I1.tuple hq
    refine call_enumB (begins_tuple a its.toArray) p' fun h' he hit hk => wpAny_pyIter_enum he ?_
    exact ⟨s1.heap.objs.size + 1, [s1.heap.objs.size + 1, s1.heap.objs.size], _, _, H1, rfl, I1.kept (t' := s1.toks) hk, turn_enumT a (s1.heap.objs.size + 1) s1.heap.objs.size, ⟨⟨.none, he⟩, ⟨_, hit, rfl, rfl⟩, Nat.succ_ne_self _⟩, fresh, q⟩
def enumD (ds : List PyData) : List PyData := ds.zipIdx.map fun p => .tuple [.int (p.2 : Nat), p.1]
theorem enumD_get {ds : List PyData} {i : Nat} {a : PyData} (h : ds[i]? = some a) : (enumD ds)[i]? = some (.tuple [.int (i : Nat), a]) := by
  unfold enumD
  rw [List.getElem?_map, List.getElem?_zipIdx, h]
  simp
theorem enumD_len (ds : List PyData) : (enumD ds).length = ds.length := by simp [enumD]
theorem gives_enumL {K : PySem.W.Frag} {F : Hp} {a : Addr} {vs : List V} {ds : List PyData} (h1 : SqL K F a vs) (r1 : DpAll K F vs ds) : Gives K F (Ite K a) (enumD ds) := by
  unfold Gives
  rw [enumD_len, ← dps_len r1]
  have w0 := walk_enum (K := K) (a := a) (xs := vs)
  refine ⟨fun i H hi s => w0.goes i H hi (sqL_up s h1), fun H s => w0.stops H (sqL_up s h1), fun i H x H' hi s y => ⟨s, ?_⟩⟩
  obtain ⟨T, p, q, e1, e2, e3, e4, e5⟩ := w0.yields i H x H' hi (sqL_up s h1) y
  cases e4
  obtain ⟨da, f1, f2⟩ := dps_getv r1 e5
  exact ⟨_, enumD_get f1, .inr ⟨T, _, q, _, da, e1, e2, e3, rfl, .int _, f2⟩⟩
theorem gives_enumT {K : PySem.W.Frag} {F : Hp} {a : Addr} {vs : List V} {ds : List PyData} (h1 : SqT K F a vs) (r1 : DpAll K F vs ds) : Gives K F (IteT K a) (enumD ds) := by
  unfold Gives
  rw [enumD_len, ← dps_len r1]
  refine ⟨fun i H hi s => ⟨vs, vs[i], sqT_up s h1, List.getElem?_eq_getElem hi⟩, fun H s => ⟨vs, sqT_up s h1, rfl⟩, fun i H x H' hi s y => ⟨s, ?_⟩⟩
  obtain ⟨T, q, e1, e2, e3, e5⟩ := y
  obtain ⟨da, f1, f2⟩ := dps_getv r1 (e5 _ (sqT_up s h1))
  exact ⟨_, enumD_get f1, .inr ⟨T, _, q, _, da, e1, e2, e3, rfl, .int _, f2⟩⟩
def wEnum (te : DTE) : DTI := fun σ h Q => te σ h fun x h1 => match fz1 x h1 with
  | some (.list ds, h2) => Q (enumD ds) h2
  | some (.tuple ds, h2) => Q (enumD ds) h2
  | _ => False
theorem dw_enum {X : Cx} {e : Expr} {te : DTE} {p pos tpos : Pos} {elts : List Expr} {kk : Nat} (hg : Gl X "enumerate") (hm : X.mg "enumerate" = none) (he : DE X Γ e te) (hs : starEach [e] X.env = [(false, eval e X.env)] := by rfl) : DWk X Γ (.Tuple elts kk tpos) (.Call (.Name "enumerate" p) [e] [] pos) (wEnum te) := by
  refine ⟨fun σ h Q Q' k w => he.mono _ _ _ _ (fun x h1 w1 => ?_) w, pi_imp (pi_enumA hg hm (da_cons he da_nil hs).pa hs) fun σ H R ⟨σd, h, rs, rm, w⟩ => ?_⟩
  · split at w1
    · exact k _ _ w1
    · exact k _ _ w1
    · exact w1
  · refine lift_mk (mono_cons he.mono fun _ _ _ _ k w => k _ _ w) rs rm (C := fun xs h1 => ∃ x, xs = [x] ∧ match fz1 x h1 with
        | some (.list ds, h2) => (∀ J H', PX Γ H h H' h2 → RM X.K Γ H' h2 → Gives X.K (Fz Γ H' h2) J (enumD ds) → R J H')
        | some (.tuple ds, h2) => (∀ J H', PX Γ H h H' h2 → RM X.K Γ H' h2 → Gives X.K (Fz Γ H' h2) J (enumD ds) → R J H')
        | _ => False) (he.mono _ _ _ _ (fun x h1 w1 => ⟨x, rfl, w1⟩) w) fun xs h1 vs H1 px rs1 rvs rm1 w1 => ?_
    obtain ⟨x, rfl, w1⟩ := w1
    obtain ⟨v, rfl, rv⟩ := rvs1 rvs
    split at w1
    · rename_i ds h2 e1
      obtain ⟨p1, r1, d1⟩ := fz1_ok rv rm1 e1
      cases d1 with
      | @lst a1 vs1 _ s1 dd1 => exact ⟨a1, vs1, rfl, .inl ⟨sqL_up fz_sub s1, w1 _ _ (px.trans p1) r1 (gives_enumL s1 dd1)⟩⟩
    · rename_i ds h2 e1
      obtain ⟨p1, r1, d1⟩ := fz1_ok rv rm1 e1
      cases d1 with
      | @tup a1 vs1 _ s1 dd1 => exact ⟨a1, vs1, rfl, .inr ⟨sqT_up fz_sub s1, w1 _ _ (px.trans p1) r1 (gives_enumT s1 dd1)⟩⟩
    · exact w1.elim
end DL

namespace DL
open PySem PySem.Spec PyProof.Rows L2
open PySem.W (AlikeAll minD dataLt min_list_default alike)
set_option autoImplicit true

def dMinD (te : DTE) : DTE := fun σ h Q => te σ h fun x h1 => match asL h1 x with
  | some ds => AlikeAll ds ∧ PyData.depthAll ds ≤ 60 ∧ (match ds with
    | [] => Q (.d .none) h1
    | y :: ys => Q (.d (minD y ys)) h1)
  | none => False
end DL

namespace DL
open PySem PySem.Spec PyProof.Rows L2
set_option autoImplicit true

section
variable {P : Program} {w : World} {A : Around} {E : Value → Shared → Prop} {s : Shared}
end
section
variable {X : Cx} {a : Expr} {ta : TE}
end

section
open PySem.W PySem.Calls PySem.HandSPX
variable {prog : Program} {w : World} {A : Around} {R : Result → Shared → Prop} {s : Shared} {K : Frag} {mg : Str → Option Value} {x base qual : Str} {C Cb fI : Addr} {B newId initId : String} {bmB : List Value} {params : Arguments} {scope : Scope} {fd : FuncData}
theorem bind3f {kindOf : Str → Option NameKind} {f g : Str} {a v u : Value} (h1 : kindOf "self" = some .local) (h2 : kindOf f = some .local) (h3 : kindOf g = some .local) (ne : f ≠ ("self" : Str)) (ne2 : g ≠ ("self" : Str)) (nfg : f ≠ g) :
    bindL kindOf [("self", a), (f, v), (g, u)] (fun _ => none) "self" = some a ∧ bindL kindOf [("self", a), (f, v), (g, u)] (fun _ => none) f = some v ∧ bindL kindOf [("self", a), (f, v), (g, u)] (fun _ => none) g = some u := by
  have n1 : ¬ ("self" : Str) = f := fun z => ne z.symm
  have n2 : ¬ ("self" : Str) = g := fun z => ne2 z.symm
  refine ⟨?_, ?_, ?_⟩
  · simp [bindL, h1, h2, h3, n1, n2]
  · simp [bindL, h1, h2, h3, nfg]
  · simp [bindL, h1, h2, h3]
def map2 (f g : Str) (v u : Value) : Str → Option Value := fun y => if y = g then some u else if y = f then some v else none
theorem err_init2 {f g : Str} {q1 q2 q3 q4 q5 q6 q7 q8 q9 q10 q11 q12 q13 : Pos} {e t0 : Addr} {v u : Value} (T : ErrC K mg x base C Cb fI [f, g] B newId initId bmB) (F : FunD K "__init__" qual params [eCall base q1 q2 q3 q4 q5, ePut f q6 q7 q8 q9, ePut g q10 q11 q12 q13] scope [] [] fI fd) (S : EScope scope base [f, g]) (nfg : f ≠ g)
    (hb : ∀ (kV doc pm : Value) (an : Option Addr) (cdv ct : Value) (us : List Value), us.length = 3 → bindArgs (fnOf "__init__" qual params [eCall base q1 q2 q3 q4 q5, ePut f q6 q7 q8 q9, ePut g q10 q11 q12 q13] scope .none kV doc pm an cdv ct) ⟨us, []⟩ = pure ([("self" : Str), f, g].zip us))
    {pl : Env → Sem Bool} (hc : ∀ env : Env, eval (.Call (.Attribute (.Name base q1) "__init__" q2) [.Name "self" q3] [] q4) env = (do
      let ov ← eval (.Name base q1) env
      standAt q2.atName
      let (f, first) ← holding [ov] (getMethod ov "__init__" (pl env))
      callWith q4 f first (backTo q4 (starEach [.Name "self" q3] env)) (backToKw q4 (keywordEach [] env))))
    (hsw : ∀ env : Env, swapsWith (.Call (.Attribute (.Name base q1) "__init__" q2) [.Name "self" q3] [] q4) none q5.line env = pure false) (hdb : (base == ("__debug__" : Str)) = false)
    (hsw2 : ∀ env : Env, swapsWith (.Name f q8) (some (.Attribute (.Name "self" q6) f q7)) q9.line env = pure false) (hsw3 : ∀ env : Env, swapsWith (.Name g q12) (some (.Attribute (.Name "self" q10) g q11)) q13.line env = pure false)
    (X : K.In s.heap) (hlim : s.heap.NoLimit) (hglo : s.heap.Ns mainGlobals mg) (he : s.heap.get? e = some (excO C t0)) (hne : K.lookup e = none) (hroom : A.depth < recursionLimit)
    (k : ∀ h' tk dx t1, EInit s.heap h' e C dx t1 (map2 f g v u) → R (.ok (.ret .none)) { s with heap := h', toks := tk }) :
    codeAny (model prog w) A (.call (.ref fI) ⟨[.ref e, v, u], []⟩) R s := by
  obtain ⟨oc, od, dV, kV, doc, pm, an, cdv, ct, osl, rfl, lk, hcd, hD, hK⟩ := F.ex
  obtain ⟨hf1, hf2, hf3⟩ := S.fs f List.mem_cons_self
  obtain ⟨hg1, hg2, hg3⟩ := S.fs g (List.mem_cons_of_mem _ List.mem_cons_self)
  obtain ⟨nm, q, N, bs, bm, sn, sub, ab, col, dd, k0, k1, k2, k3, k5, hC, hbm⟩ := T.cls
  have hcl : clsIn K C = some { name := nm, bases := bs, mro := .ref C :: bm, ns := N, qualname := q, hasDict := true, slotNames := sn, subclasses := sub, abstract := ab, collection := col, hasDel := false } := by unfold clsIn; rw [hC] <;> rfl
  have dv : dV = .none := by
    rcases hD with ⟨_, z⟩ | ⟨z, _⟩
    · exact z
    · exact absurd rfl z
  subst dv
  refine Att.call_fn (binds := [("self", .ref e), (f, v), (g, u)]) X hlim lk hcd hroom (BindsTo.of_eq (hb _ _ _ _ _ _ [.ref e, v, u] rfl)) (by simp [S.me, hf1, hg1]) (fun s₁ IC => ?_) S.co S.gen S.kind
  obtain ⟨h₁, tk₁, rfl⟩ := IC.toInCall.same
  have kp : ∀ b o, s.heap.get? b = some o → h₁.get? b = some o := IC.toInCall.keep
  have hn := IC.toInCall.ns
  have X₁ : K.In h₁ := X.keeps kp
  have he₁ := kp _ _ he
  have kme : (envOfC qual scope s.heap.objs.size fI cdv).kindOf "self" = some .local := S.me
  have kf : (envOfC qual scope s.heap.objs.size fI cdv).kindOf f = some .local := hf1
  have kg : (envOfC qual scope s.heap.objs.size fI cdv).kindOf g = some .local := hg1
  obtain ⟨b1, b2, b3⟩ := bind3f (a := .ref e) (v := v) (u := u) kme kf kg hf2 hg2 nfg
  have lt : s.heap.objs.size < h₁.objs.size := hn.lt
  show wpAny _ _ (execs _ _) _ _ _
  refine wpAny_execs_cons (wpAny_Expr_any ?_ (by simp [interactive, envOfC, S.kind]) (hsw _))
  refine methodCall_KW (Calls.Name_function_global S.kind S.base (Calls.loadGlobal_global (hglo.keeps kp) T.gB ?_) hdb) (hc _)
  refine method_cls X₁ T.gaB (cls_value X₁ T.rdB T.biB T.hI ?_)
  refine callWith_method1 (first := []) ?_ rfl rfl
  show wpAny _ _ (spliced [(false, eval (.Name "self" q3) _)]) _ _ _
  refine Calls.spliced_cons (e_load (v := .ref e) S.kind kme hn b1 (Calls.spliced_nil ?_) (by decide))
  show wpAny _ _ (call (.builtin initId) [.ref e]) _ _ _
  refine wpAny_call (init_base T.FB (fun Y => excTail_contains Y bm hbm) (X₁ _ _ hC) he₁ (by rw [sizeLine_eq]; decide) fun h₂ t1 k₂ he₂ => ?_)
  have neL : s.heap.objs.size ≠ e := Nat.ne_of_gt (Heap.lt_size he)
  have X₂ : K.In h₂ := fun b o z => k₂ b o (fun y => by rw [y, hne] at z; cases z) (X₁ b o z)
  obtain ⟨oL, esL, nL, gL, dL, rL⟩ := hn
  have hn₂ : h₂.Ns s.heap.objs.size _ := ⟨oL, esL, nL, k₂ _ _ neL gL, dL, rL⟩
  show wpAny _ _ (execs _ _) _ _ _
  refine wpAny_execs_cons (plainObj_wpAny_Assign_Attribute ?_ (hsw2 _))
  refine e_load (v := v) S.kind kf hn₂ b2 (e_load (v := .ref e) S.kind kme hn₂ b1 ?_ (by decide)) hf3
  refine set_plain X₂ (ox := excO C t1) (od := none) ⟨he₂, rfl, rfl, trivial⟩ T.sa ?_
  refine put_first T.SF X₂ he₂ hcl T.ov rfl (T.tk f List.mem_cons_self) fun h₃ tk₃ dx k₃ dn dne he₃ hn₃ => ?_
  have old : ∀ b o, b ≠ e → s.heap.get? b = some o → h₃.get? b = some o := fun b o hb z => k₃ b o hb (k₂ b o hb (kp b o z))
  have X₃ : K.In h₃ := fun b o z => k₃ b o (fun y => by rw [y, hne] at z; cases z) (X₂ b o z)
  have hn₄ : h₃.Ns s.heap.objs.size _ := ⟨oL, esL, nL, k₃ _ _ neL (k₂ _ _ neL gL), dL, rL⟩
  show wpAny _ _ (execs _ _) _ _ _
  refine wpAny_execs_cons (plainObj_wpAny_Assign_Attribute ?_ (hsw3 _))
  refine e_load (v := u) S.kind kg hn₄ b3 (e_load (v := .ref e) S.kind kme hn₄ b1 ?_ (by decide)) hg3
  have hw : Within (fun y => if y = f then some v else none) [f] := fun y hy => by
    by_cases z : y = f
    · rw [z]; exact List.mem_cons_self
    · exact absurd (show (if y = f then some v else none) = none by rw [if_neg z]) hy
  obtain ⟨oD, esD, epD, hoD, hdD, _⟩ := hn₃.count hw
  refine set_plain X₃ (ox := { excO C t1 with dict := some dx }) (od := some oD) ⟨he₃, rfl, rfl, hoD⟩ T.sa ?_
  have dlt : s.heap.objs.size ≤ dx := Nat.le_trans (Nat.le_of_lt hn₂.lt) dn
  refine put_more T.SF X₃ he₃ hn₃ hw (by show 1 ≤ 1000; decide) hcl T.ov rfl (T.tk g (List.mem_cons_of_mem _ List.mem_cons_self)) fun h₅ tk₅ k₅ hn₅ => ?_
  show wpAny _ _ (execs _ _) _ _ _
  have lt2 : ∀ b o, s.heap.get? b = some o → b ≠ dx := fun b o z => Nat.ne_of_lt (Nat.lt_of_lt_of_le (Heap.lt_size z) dlt)
  exact wpAny_execs_nil (k h₅ tk₅ dx t1 ⟨fun b o hb z => k₅ b o (lt2 b o z) (old b o hb z), k₅ _ _ dne.symm he₃, dlt, dne, hn₅⟩)
end
theorem rel_two {f g : Str} {v v2 : V} {u u2 : Value} (r : RelV v u) (r2 : RelV v2 u2) (nfg : f ≠ g) (y : Str) : RelO (List.lookup y [(f, v), (g, v2)]) (map2 f g u u2 y) := by
  unfold map2
  by_cases q : y = g
  · subst q
    rw [if_pos rfl]
    have n : (y == f) = false := by simpa using (fun z : y = f => nfg z.symm)
    have z : List.lookup y [(f, v), (y, v2)] = some v2 := by simp [List.lookup, n]
    rw [z]
    exact r2
  · rw [if_neg q]
    have q' : (y == g) = false := by simpa using q
    by_cases p : y = f
    · subst p
      rw [if_pos rfl]
      have z : List.lookup y [(y, v), (g, v2)] = some v := by simp [List.lookup]
      rw [z]
      exact r
    · rw [if_neg p]
      have p' : (y == f) = false := by simpa using p
      have z : List.lookup y [(f, v), (g, v2)] = none := by simp [List.lookup, q', p']
      rw [z]
      trivial
def tMk2 (C : Addr) (f g : Str) (ta : TA) : L2.St → Hp → XK → Prop := fun σ H Q => ta σ H fun vs H1 => ∃ v v2, vs = [v, v2] ∧ ∀ d, H1 d = none → Q (.ref C) (some d) (upd H1 d (.xd [(f, v), (g, v2)]))
def Init2 (K : PySem.W.Frag) (mg : Str → Option Value) (C fI : Addr) (f g : Str) : Prop := ∀ (prog : Program) (w : World) (A : Around) (R : Result → Shared → Prop) (s : Shared) (e t0 : Addr) (v u : Value), K.In s.heap → s.heap.NoLimit → s.heap.Ns mainGlobals mg → s.heap.get? e = some (PySem.HandSPX.excO C t0) → K.lookup e = none → A.depth < recursionLimit →
  (∀ h' tk dx t1, EInit s.heap h' e C dx t1 (map2 f g v u) → R (.ok (.ret .none)) { s with heap := h', toks := tk }) → codeAny (model prog w) A (.call (.ref fI) ⟨[.ref e, v, u], []⟩) R s
section
variable {X : Cx} {x base f g : Str} {C Cb fI : Addr} {B newId initId : String} {bmB : List Value}
theorem pmk_2 {a b : Expr} {ta : TA} {p pos : Pos} {k : Nat} (T : ErrC X.K X.mg x base C Cb fI [f, g] B newId initId bmB) (N : Init2 X.K X.mg C fI f g) (nfg : f ≠ g) (hr : Room k X.A) (ha : PA X [a, b] ta) (hg : Gl X x) (hdb : (x == ("__debug__" : Str)) = false)
    (he : starEach (a :: [b]) X.env = (false, eval a X.env) :: starEach [b] X.env := by rfl) (hpl : (backTo pos (starEach [b] X.env)).any (·.1) = false := by rfl) :
    PMk X (.Call (.Name x p) [a, b] [] pos) (tMk2 C f g ta) := by
  intro pins s σ H Q I h
  refine wpAny_Call_Name_kw (ld_glob I hg T.gC ?_ hdb)
  refine PySem.W.callWith_K (h₀ := X.base) I.ok.mod.kin T.kC (thn (ha.run pos pins s σ H _ I h) fun us s1 hh => ?_) he hpl
  obtain ⟨vs, H1, I1, r1, v, v2, ev, q1⟩ := hh
  subst ev
  refine ⟨I1.kIn, ?_⟩
  obtain ⟨u, u2, rfl, ru, ru2⟩ := vals2 r1
  show wpAny _ _ (call (.ref C) [u, u2]) _ _ _
  have hlim := I1.nolimit
  have hglo : s1.heap.Ns mainGlobals X.mg := I1.mod.glob.keeps I1.bk
  obtain ⟨hp, gn, dr, tk, os⟩ := s1
  refine wpAny_call (err_made T I1.kIn hlim hglo (by have := hr.dp; omega) (by rw [sizeLine_eq]; show 2 ≤ 16777216; decide) (fun {A R s e t0} a1 a2 a3 a4 a5 a6 a7 => N _ _ A R s e t0 u u2 a1 a2 a3 a4 a5 a6 a7) fun h' tk' e d M => ?_)
  show MkP X pins σ Q (.ref e) ⟨h', gn, dr, tk', os⟩
  obtain ⟨oe, fv, hoe, hc, hd, hdat, h1⟩ := M.obj
  obtain ⟨G', g1, g2⟩ := restrict h' fun b => decide (b ≠ e)
  have gk : ∀ b, b ≠ e → G'.get? b = h'.get? b := fun b hb => g1 b (decide_eq_true hb)
  have ge : G'.get? e = none := g2 e (by simp)
  have old : ∀ b o, hp.get? b = some o → G'.get? b = some o := fun b o q => (gk b (Nat.ne_of_lt (Nat.lt_of_lt_of_le (Heap.lt_size q) M.new))).trans (M.keep b o q)
  have ob : ObjOk X.prog X.w (upd H1 d (.xd [(f, v), (g, v2)])) G' d (.xd [(f, v), (g, v2)]) := ⟨_, M.ns.at (fun o q => (gk d M.ne).trans q), fun y => rel_two ru ru2 nfg y⟩
  have J : Inv X pins σ (upd H1 d (.xd [(f, v), (g, v2)])) ⟨G', gn, dr, tk', os⟩ := I1.laid (t' := tk') old M.big ob
  refine ⟨e, oe, fv, ⟨G', gn, dr, tk', os⟩, _, .ref C, some d, rfl, J, fun b o q => ?_, ge, hoe, ⟨hc, hd⟩, hdat, h1, ?_, rfl, I1.bare, raises_own T.exC T.tyC, q1 d (I1.hok.fresh M.big)⟩
  · by_cases hb : b = e
    · have q' : G'.get? b = some o := q
      rw [hb, ge] at q'
      cases q'
    · exact (gk b hb).symm.trans q
  · rw [upd_ne (Ne.symm M.ne)]
    exact I1.hok.fresh M.new
/-- raise C(a, b) -/
def dRaise2 (E : DXS) (n f g : Str) (t : DTA) : DTS := fun _ σ h => t σ h fun xs h1 => match fzs xs h1 with
  | some ([d, d2], h2) => E ⟨n, [(f, d), (g, d2)]⟩ σ h2
  | _ => False
theorem ds_raise2 {a b : Expr} {t : DTA} {E : DXS} {p pos pos2 : Pos} {k : Nat} (hc : X.calm = true) (T : ErrC X.K X.mg x base (He.ga X.K x) Cb fI [f, g] B newId initId bmB) (N : Init2 X.K X.mg (He.ga X.K x) fI f g) (nfg : f ≠ g) (hr : Room k X.A) (tk : Takes X (liftX X.K Γ E)) (ha : DA X Γ [a, b] t) (hg : Gl X x := by rfl) (hdb : (x == ("__debug__" : Str)) = false := by decide)
    (he : starEach (a :: [b]) X.env = (false, eval a X.env) :: starEach [b] X.env := by rfl) (hpl : (backTo pos (starEach [b] X.env)).any (·.1) = false := by rfl) :
    DS X Γ (.Raise (some (.Call (.Name x p) [a, b] [] pos)) none pos2) (dRaise2 E x f g t) := by
  refine ⟨fun D D' σ h l w => w, ps_imp (ps_raise hc tk (pmk_2 T N nfg hr ha.pa hg hdb he hpl)) fun D σ H ⟨σd, h, rs, rm, w⟩ => ?_⟩
  refine lift_mk ha.mono rs rm w fun xs h1 vs H1 px rs1 rvs rm1 w1 => ?_
  split at w1
  · rename_i d d2 h2 e1
    obtain ⟨p2, rm2, dp⟩ := fzs_ok rvs rm1 e1
    obtain ⟨v, v2, dv, dv2, rfl⟩ : ∃ v v2, Dp X.K (Fz Γ H1 h2) v d ∧ Dp X.K (Fz Γ H1 h2) v2 d2 ∧ vs = [v, v2] := by
      cases dp with
      | cons a b => cases b with
        | cons b c => cases c; exact ⟨_, _, a, b, rfl⟩
    refine ⟨v, v2, rfl, fun dd nd => ?_⟩
    have p3 : PX Γ H1 h2 (upd H1 dd (.xd [(f, v), (g, v2)])) h2 := rm2.px nd
    refine ⟨⟨x, [(f, d), (g, d2)]⟩, σd, h2, (rs1.up p2).up p3, RM.new nd rm2, ⟨rfl, .inr ⟨dd, [(f, v), (g, v2)], rfl, Fz.of upd_same (rm2.tracked nd) (rm2.notx nd), .cons ⟨rfl, dp_up p3.ex _ _ dv⟩ (.cons ⟨rfl, dp_up p3.ex _ _ dv2⟩ .nil)⟩⟩, w1⟩
  · exact w1.elim
end
def Err2 (K : PySem.W.Frag) (mg : Str → Option Value) (x f g : Str) : Prop := ∃ (base : Str) (Cb fI : Addr) (B newId initId : String) (bmB : List Value), ErrC K mg x base (He.ga K x) Cb fI [f, g] B newId initId bmB ∧ Init2 K mg (He.ga K x) fI f g
theorem ds_raiseE2 {X : Cx} {x f g : Str} {a b : Expr} {t : DTA} {E : DXS} {p pos pos2 : Pos} {k : Nat} (hc : X.calm = true) (T : Err2 X.K X.mg x f g) (nfg : f ≠ g) (hr : Room k X.A) (tk : Takes X (liftX X.K Γ E)) (ha : DA X Γ [a, b] t) (hg : Gl X x := by rfl) (hdb : (x == ("__debug__" : Str)) = false := by decide)
    (he : starEach (a :: [b]) X.env = (false, eval a X.env) :: starEach [b] X.env := by rfl) (hpl : (backTo pos (starEach [b] X.env)).any (·.1) = false := by rfl) :
    DS X Γ (.Raise (some (.Call (.Name x p) [a, b] [] pos)) none pos2) (dRaise2 E x f g t) := by
  obtain ⟨base, Cb, fI, B, newId, initId, bmB, T1, T2⟩ := T
  exact ds_raise2 hc T1 T2 nfg hr tk ha hg hdb he hpl

section
variable {X : Cx} {x : Str} {cv : Value} {body suite : List Stmt} {b₀ : Stmt} {np pos pos' : Pos} {kt : Str → Str → Option Bool} {tb : DXS → DTS} {ts : Addr → DExc → DTS} {Eo : DXS}
end

def rInT (K : PySem.W.Frag) (no : Bool) : R2 := fun x y H Q => ∃ d ds, Dp K H x d ∧ Dp K H y (.tuple ds) ∧ d.plain = true ∧ PyData.plainAll ds = true ∧ d.depth ≤ 60 ∧ Q (.bl (if no = true then !ds.any fun z => PyData.eqv z d else ds.any fun z => PyData.eqv z d)) H
section
variable {X : Cx}
theorem op_inT (hu : X.A.units + 65 < cLine) : OpR X (compareOp .In) (rInT X.K false) := by
  intro pins s σ H x y v u Q I rx ry h
  obtain ⟨d, ds, hd, he, sd, se, hdd, q⟩ := h
  obtain ⟨as, r1⟩ := Dp.reads I d x v hd rx
  obtain ⟨bs, r2⟩ := Dp.reads I (.tuple ds) y u he ry
  exact SeqAt.in_tuple_data r2 r1 se sd (by omega) ⟨.bl _, H, I, rfl, q⟩
theorem op_notInT (hu : X.A.units + 65 < cLine) : OpR X (compareOp .NotIn) (rInT X.K true) := by
  intro pins s σ H x y v u Q I rx ry h
  obtain ⟨d, ds, hd, he, sd, se, hdd, q⟩ := h
  obtain ⟨as, r1⟩ := Dp.reads I d x v hd rx
  obtain ⟨bs, r2⟩ := Dp.reads I (.tuple ds) y u he ry
  exact SeqAt.notIn_tuple_data r2 r1 se sd (by omega) ⟨.bl _, H, I, rfl, q⟩
end
def rdInT (no : Bool) : DR2 := fun x y h Q => match asD h x, asD h y with
  | some d, some (.tuple ds) => d.plain = true ∧ PyData.plainAll ds = true ∧ d.depth ≤ 60 ∧ Q (.d (.bool (if no = true then !ds.any fun z => PyData.eqv z d else ds.any fun z => PyData.eqv z d))) h
  | _, _ => False
theorem lr_inT {K : PySem.W.Frag} {no : Bool} : LR2 K Γ (rdInT no) (rInT K no) := by
  refine ⟨fun x y h Q Q' k w => ?_, fun x y v u H h C' Q rv ru rm w k => ?_⟩
  · unfold rdInT at w ⊢
    split at w
    · exact ⟨w.1, w.2.1, w.2.2.1, k _ _ w.2.2.2⟩
    · exact w
  · unfold rdInT at w
    split at w
    · rename_i d ds e1 e2
      exact ⟨d, ds, asD_ok rv rm e1, asD_ok ru rm e2, w.1, w.2.1, w.2.2.1, k _ _ _ H PX.refl rv_bl rm w.2.2.2⟩
    · exact w.elim
end DL

namespace DL
open PySem PySem.Spec PyProof.Rows L2
set_option autoImplicit true

section
variable {X : Cx} {a b c : Expr} {ta tb tc : DTE} {pos : Pos}
end

def rdIsB : DR2 := fun x y h Q => match x, y with
  | .d (.bool a), .d (.bool b) => Q (.d (.bool (decide (a = b)))) h
  | _, _ => False
def rdNotB : DR2 := fun x y h Q => match x, y with
  | .d (.bool a), .d (.bool b) => Q (.d (.bool (!decide (a = b)))) h
  | _, _ => False
end DL

namespace DL
open PySem PySem.Spec PyProof.Rows L2
set_option autoImplicit true

theorem rvf_rv {K : PySem.W.Frag} {Γ : GI} {H : Hp} {h : MH} {x : SV} {v : V} (r : RVF K (Fz Γ H h) x v) : RV K Γ H h x v := by cases x <;> exact r
theorem rv_rvf {K : PySem.W.Frag} {Γ : GI} {H : Hp} {h : MH} {x : SV} {v : V} (r : RV K Γ H h x v) : RVF K (Fz Γ H h) x v := by cases x <;> exact r
/-- the pairs of one's own dict -/
def asDc (h : MH) : SV → Option (Addr × List (Key × SV))
  | .own a => match h a with
    | some (.dct ps) => some (a, ps)
    | _ => none
  | .d _ => none
theorem asDc_ok {h : MH} {x : SV} {p : Addr × List (Key × SV)} (e : asDc h x = some p) : x = .own p.1 ∧ h p.1 = some (.dct p.2) := by
  cases x with
  | d _ => cases e
  | own b =>
    cases q : h b with
    | none => simp only [asDc, q] at e; cases e
    | some m => cases m <;> simp only [asDc, q] at e <;> cases e <;> exact ⟨rfl, q⟩
theorem dc_at {K : PySem.W.Frag} {Γ : GI} {H : Hp} {h : MH} {x : SV} {v : V} {p : Addr × List (Key × SV)} (rm : RM K Γ H h) (rv : RV K Γ H h x v) (e : asDc h x = some p) : v = .ref p.1 ∧ h p.1 = some (.dct p.2) ∧ ∃ kvs, H p.1 = some (.dK kvs) ∧ Paired (RPF K (Fz Γ H h)) p.2 kvs := by
  obtain ⟨ex, ea⟩ := asDc_ok e
  subst ex
  obtain ⟨u0, f1, f2⟩ := ro_at (rm.ob _ _ ea)
  cases u0 <;> first | exact f2.elim | skip
  exact ⟨rv, ea, _, f1, f2⟩
theorem own_newG {K : PySem.W.Frag} {Γ : GI} {H : Hp} {h : MH} {p : Addr} {u : HO} {o : MO} (n : H p = none) (r : RM K Γ H h) (hd : ROF K (Fz Γ H h) o u) : PX Γ H h (upd H p u) (mput h p o) ∧ RM K Γ (upd H p u) (mput h p o) ∧ h p = none :=
  ⟨own_px n (r.tracked n) (r.notx n), own_rmG n r hd, r.tracked n⟩
section
variable {X : Cx} {e o f : Expr} {te to ti tx : DTE} {t : DTA} {es : List Expr} {pos apos cpos : Pos}
/-- (a, .., z), of what is one's own as it is -/
def dTupO (t : DTA) : DTE := fun σ h Q => t σ h fun xs h1 => xs.length ≤ sizeLine ∧ ∀ p, h1 p = none → Q (.own p) (mput h1 p (.tpl xs))
theorem rvs_rof {K : PySem.W.Frag} {Γ : GI} {H : Hp} {h : MH} {xs : List SV} {vs : List V} (r : RVs K Γ H h xs vs) : Paired (RVF K (Fz Γ H h)) xs vs := paired_imp (fun _ _ => rv_rvf) r
theorem de_tupO {x1} (ha : DA X Γ es t) : DE X Γ (.Tuple es x1 pos) (dTupO t) :=
  ⟨fun σ h Q Q' k w => ha.mono _ _ _ _ (fun xs h1 w1 => ⟨w1.1, fun p hp => k _ _ (w1.2 p hp)⟩) w, pe_imp (pe_tup ha.pa) fun σ H Q ⟨σd, h, rs, rm, w⟩ =>
    lift_mk ha.mono rs rm w fun xs h1 vs H1 px rs1 rv rm1 w1 => ⟨by rw [rvs_len rv]; exact w1.1, fun p hp => by
      obtain ⟨a, b, c⟩ := own_newG (o := .tpl xs) (u := .tup vs) hp rm1 (show Paired _ _ _ from rvs_rof rv)
      exact w1.2 p c (.ref p) _ (px.trans a) rfl b⟩⟩
/-- [a, .., z], of what is one's own as it is -/
def dLstO (t : DTA) : DTE := fun σ h Q => t σ h fun xs h1 => xs.length ≤ sizeLine ∧ ∀ p, h1 p = none → Q (.own p) (mput h1 p (.seq xs))
def mergeS (acc more : List (Key × SV)) : List (Key × SV) := more.foldl (fun acc kv => putS acc kv.1 kv.2) acc
theorem mergeS_ok {K : PySem.W.Frag} {F : Hp} : ∀ {more : List (Key × SV)} {mv : List (Key × V)}, Paired (RPF K F) more mv → ∀ {acc : List (Key × SV)} {av : List (Key × V)}, Paired (RPF K F) acc av → Paired (RPF K F) (mergeS acc more) (mergeK av mv)
  | _, _, .nil, _, _, r => r
  | (k, y) :: more, (k', v) :: mv, .cons h t, acc, av, r => by
    obtain ⟨e1, e2⟩ := h
    have e1' : k = k' := e1
    subst e1'
    exact mergeS_ok t (putS_ok r e2)
def dDGet1 (to ti : DTE) : DTE := fun σ h Q => to σ h fun x h1 => match asDc h1 x with
  | some _ => ti σ h1 fun y h2 => match asDc h2 x, asKey y with
    | some p, some k => Q ((valS p.2 k).getD (.d .none)) h2
    | _, _ => False
  | none => False
theorem m1_of {m : Str} (base : attributeBase o m X.env (eval o X.env) = eval o X.env := by rfl)
    (few : ((backTo cpos (starEach [e] X.env)).all (fun x => !x.1) && (backToKw cpos (keywordEach [] X.env)).all (fun x => x.1.isSome) && decide (([e] : List Expr).length + ([] : List Keyword).length + (if ([] : List Keyword).isEmpty then 0 else 1) < 30)) = true := by rfl)
    (line : (apos.endLine == cpos.line) = true := by rfl) (trees : backTo cpos (starEach [e] X.env) = [(false, eval e X.env)] := by rfl) : M1 X o m apos e cpos := ⟨base, few, line, trees⟩
theorem valS_get {K : PySem.W.Frag} {F : Hp} {k : Key} {ps : List (Key × SV)} {kvs : List (Key × V)} (r : Paired (RPF K F) ps kvs) {z : SV} {v : V} (rz : RVF K F z v) : RVF K F ((valS ps k).getD z) ((valV kvs k).getD v) := by
  cases q : valS ps k with
  | none => rw [(valS_ok r).2 q]; exact rz
  | some y =>
    obtain ⟨w, e1, e2⟩ := (valS_ok r).1 y q
    rw [e1]; exact e2
theorem de_dget1 (hu : X.A.units + 1 < cLine) (ho : DE X Γ o to) (he : DE X Γ e ti) (m : M1 X o "get" apos e cpos) : DE X Γ (.Call (.Attribute o "get" apos) [e] [] cpos) (dDGet1 to ti) :=
  ⟨fun σ h Q Q' k w => ho.mono _ _ _ _ (fun x h1 w1 => by
    split at w1
    · exact he.mono _ _ _ _ (fun y h2 w2 => by
        split at w2
        · exact k _ _ w2
        · exact w2) w1
    · exact w1) w, pe_imp (pe_dget1 hu ho.pe he.pe m) fun σ H Q ⟨σd, h, rs, rm, w⟩ => lift_mk ho.mono rs rm w fun x h1 v H1 px rs1 rv rm1 w1 => by
    split at w1
    · rename_i p e1
      obtain ⟨e2, e3, kvs, e4, e5⟩ := dc_at rm1 rv e1
      refine ⟨p.1, e2, .inl ⟨kvs, .inl e4⟩, lift_mk he.mono rs1 rm1 w1 fun y h2 u H2 px2 rs2 ry rm2 w2 => ?_⟩
      split at w2
      · rename_i p2 k f1 f2
        obtain ⟨g2, g3, kvs2, g4, g5⟩ := dc_at rm2 (rv.up px2) f1
        have ea : p.1 = p2.1 := V.ref.inj (e2.symm.trans g2)
        rw [ea]
        exact ⟨valV kvs2 k, by rw [asKey_ok ry f2]; exact DGet.k g4, w2 _ _ (px.trans px2) (rvf_rv (valS_get g5 (show RVF _ _ _ _ from Dp.non))) rm2⟩
      · exact w2.elim
    · exact w1.elim⟩
def pairsD : List PyData → Option (List (Key × SV))
  | [] => some []
  | .tuple [k, v] :: r => match keyP k, pairsD r with
    | some k, some rs => some ((k, .d v) :: rs)
    | _, _ => none
  | _ => none
theorem pairsD_ok {K : PySem.W.Frag} {F : Hp} : ∀ {ds : List PyData} {vs : List V} {kvs : List (Key × SV)}, DpAll K F vs ds → pairsD ds = some kvs → ∃ (ps : List Addr) (ks : List (Key × V)), vs = ps.map V.ref ∧ Paired (fun p kv => SqT K F p [kV kv.1, kv.2]) ps ks ∧ Paired (RPF K F) kvs ks
  | [], _, _, r, e => by cases r; cases e; exact ⟨[], [], rfl, .nil, .nil⟩
  | d :: ds, _, kvs, r, e => by
    cases r with
    | cons h1 h2 =>
      unfold pairsD at e
      split at e
      · rename_i e0; cases e0
      · rename_i k0 v0 r0 e0
        cases e0
        split at e
        · rename_i k rs e1 e2
          cases e
          obtain ⟨ps, ks, q1, q2, q3⟩ := pairsD_ok h2 e2
          cases h1 with
          | @tup a us _ hs hall =>
            cases hall with
            | @cons u1 _ us2 _ a1 a2 =>
              cases a2 with
              | @cons u2 _ us3 _ b1 b2 =>
                cases b2
                have ek : u1 = kV k := by
                  cases k0 with
                  | int i => cases e1; cases a1; rfl
                  | str z => cases e1; cases a1; rfl
                  | _ => cases e1
                subst ek
                exact ⟨a :: ps, (k, u2) :: ks, by rw [List.map_cons, q1], .cons hs q2, .cons ⟨rfl, b1⟩ q3⟩
        · cases e
      · cases e
def setAllS : List Nat → List SV → DSt → DSt
  | i :: r, d :: ds, σ => setAllS r ds (σ.set i (some d))
  | _, _, σ => σ
theorem rawGsS_ok {K : PySem.W.Frag} {H : Hp} {h : MH} {Q : L2.St → Hp → Prop} : ∀ {is : List Nat} {vs : List V} {ds : List SV} {σd : DSt} {σ : L2.St}, Paired (RVF K (Fz Γ H h)) ds vs → ds.length = is.length → RSt K Γ H h σd σ →
    (∀ σ', RSt K Γ H h (setAllS is ds σd) σ' → Q σ' H) → rawGs is vs σ H Q
  | [], _, [], _, _, hd, _, rs, k => by cases hd; exact ⟨rfl, k _ rs⟩
  | [], _, _ :: _, _, _, _, hl, _, _ => by simp at hl
  | _ :: _, _, [], _, _, _, hl, _, _ => by simp at hl
  | i :: r, _, d :: ds, σd, σ, hd, hl, rs, k => by
    cases hd with
    | cons h1 h2 =>
      refine ⟨_, _, rfl, ?_⟩
      exact rawGsS_ok h2 (by simpa using hl) (rs.set (rvf_rv h1)) fun σ' rs' => k σ' rs'
def asTp (h : MH) : SV → Option (Addr × List SV)
  | .own a => match h a with
    | some (.tpl xs) => some (a, xs)
    | _ => none
  | .d _ => none
theorem asTp_ok {h : MH} {x : SV} {p : Addr × List SV} (e : asTp h x = some p) : x = .own p.1 ∧ h p.1 = some (.tpl p.2) := by
  cases x with
  | d _ => cases e
  | own b =>
    cases q : h b with
    | none => simp only [asTp, q] at e; cases e
    | some m => cases m <;> simp only [asTp, q] at e <;> cases e <;> exact ⟨rfl, q⟩
theorem tp_at {K : PySem.W.Frag} {Γ : GI} {H : Hp} {h : MH} {x : SV} {v : V} {p : Addr × List SV} (rm : RM K Γ H h) (rv : RV K Γ H h x v) (e : asTp h x = some p) : ∃ vs, v = .ref p.1 ∧ h p.1 = some (.tpl p.2) ∧ H p.1 = some (.tup vs) ∧ Paired (RVF K (Fz Γ H h)) p.2 vs := by
  obtain ⟨ex, ea⟩ := asTp_ok e
  subst ex
  obtain ⟨u0, f1, f2⟩ := ro_at (rm.ob _ _ ea)
  cases u0 <;> first | exact f2.elim | skip
  exact ⟨_, rv, ea, f1, f2⟩
def dUnp (te : DTE) (is : List Nat) : DTS := fun D σ h => te σ h fun x h1 => match asTp h1 x with
  | some p => p.2.length = is.length ∧ D.nx (setAllS is p.2 σ) h1
  | none => match bindT (.tup is) x σ with
    | some σ' => D.nx σ' h1
    | none => False
theorem ds_unp {tg : Expr} {is : List Nat} {e : Expr} {te : DTE} (he : DE X Γ e te) (hg : DG X tg (.tup is)) (hs : swapsWithSole [tg] e pos.line X.env = pure false := by rfl) (hw : swappedStores [tg] e X.env = pure none := by rfl)
    (h1 : (assignEach [tg] X.env).map (·.2) = [assign tg X.env] := by rfl) : DS X Γ (.Assign [tg] e pos) (dUnp te is) :=
  ⟨fun D D' σ h l w => he.mono _ _ _ _ (fun x h1 w1 => by
    split at w1
    · exact ⟨w1.1, l.nx _ _ w1.2⟩
    · split at w1
      · exact l.nx _ _ w1
      · exact w1) w, ps_imp (ps_asg he.pe hg.pg hs hw h1) fun D σ H ⟨σd, h, rs, rm, w⟩ =>
    lift_mk he.mono rs rm w fun x h1 v H1 px rs1 rv rm1 w1 => by
      split at w1
      · rename_i p e1
        obtain ⟨vs, e2, e3, e4, e5⟩ := tp_at rm1 rv e1
        exact ⟨p.1, vs, e2, SqT.of e4, by rw [← pairs_len e5]; exact w1.1, rawGsS_ok e5 w1.1 rs1 fun σr rs' => w1.2 σr H1 px rs' rm1⟩
      · split at w1
        · rename_i σ' e1
          exact rawT_okS rv rs1 rm1 e1 fun σr H2 px2 rm2 rs' _ => w1 σr H2 (px.trans px2) rs' rm2
        · exact w1.elim⟩
end
section
variable {σ : DSt} {h : MH} {Q : DK} {QA : List SV → MH → Prop} {D : DEnds} {x y z : SV} {ta tb tc tk tv to ti tx te : DTE} {tA : DTA} {a p : Addr} {trs : List (DTE × DTE)} {QP : List (SV × SV) → MH → Prop} {xs : List SV} {ps : List (Key × SV)} {k' : Key}
def tupOK (Q : DK) : List SV → MH → Prop := fun xs h1 => xs.length ≤ sizeLine ∧ ∀ p, h1 p = none → Q (.own p) (mput h1 p (.tpl xs))
theorem e_tupO (k : tA σ h (tupOK Q)) : dTupO tA σ h Q := k
theorem k_tupO (c : Nat.ble xs.length 16777216 = true) (k : ∀ p, h p = none → Q (.own p) (mput h p (.tpl xs))) : tupOK Q xs h := ⟨by rw [sizeLine_eq]; exact Nat.le_of_ble_eq_true c, k⟩
def lstOK (Q : DK) : List SV → MH → Prop := fun xs h1 => xs.length ≤ sizeLine ∧ ∀ p, h1 p = none → Q (.own p) (mput h1 p (.seq xs))
theorem e_lstO (k : tA σ h (lstOK Q)) : dLstO tA σ h Q := k
theorem k_lstO (c : Nat.ble xs.length 16777216 = true) (k : ∀ p, h p = none → Q (.own p) (mput h p (.seq xs))) : lstOK Q xs h := ⟨by rw [sizeLine_eq]; exact Nat.le_of_ble_eq_true c, k⟩
def unpK (is : List Nat) (D : DEnds) (σ : DSt) : DK := fun x h1 => match asTp h1 x with
  | some p => p.2.length = is.length ∧ D.nx (setAllS is p.2 σ) h1
  | none => match bindT (.tup is) x σ with
    | some σ' => D.nx σ' h1
    | none => False
theorem e_unp {is : List Nat} (k : te σ h (unpK is D σ)) : dUnp te is D σ h := k
theorem k_unp {is : List Nat} {σ' : DSt} (e : h a = some (.tpl xs)) (hl : xs.length = is.length) (es : setAllS is xs σ = σ') (k : D.nx σ' h) : unpK is D σ (.own a) h := by
  have q : asTp h (.own a) = some (a, xs) := by simp only [asTp, e]
  unfold unpK
  rw [q]
  subst es
  exact ⟨hl, k⟩
theorem asDc_own (e : h a = some (.dct ps)) : asDc h (.own a) = some (a, ps) := by simp only [asDc, e]
def get1K (ti : DTE) (σ : DSt) (Q : DK) : DK := fun x h1 => match asDc h1 x with
  | some _ => ti σ h1 fun y h2 => match asDc h2 x, asKey y with
    | some p, some k => Q ((valS p.2 k).getD (.d .none)) h2
    | _, _ => False
  | none => False
theorem e_get1 (k : to σ h (get1K ti σ Q)) : dDGet1 to ti σ h Q := k
def get1E (x : SV) (Q : DK) : DK := fun y h2 => match asDc h2 x, asKey y with
  | some p, some k => Q ((valS p.2 k).getD (.d .none)) h2
  | _, _ => False
theorem k_get1 (e : h a = some (.dct ps)) (k : ti σ h (get1E (.own a) Q)) : get1K ti σ Q (.own a) h := by unfold get1K; rw [asDc_own e]; exact k
theorem k_get1E (e : h a = some (.dct ps)) (e2 : asKey y = some k') {v : SV} (e3 : (valS ps k').getD (.d .none) = v) (k : Q v h) : get1E (.own a) Q y h := by
  unfold get1E
  rw [asDc_own e, e2]
  subst e3
  exact k
end
end DL

namespace DL
open PySem PySem.Spec PyProof.Rows L2
set_option autoImplicit true

def itemsO (b : Bool) : MO → Option (List SV)
  | .lst xs => if b = true then none else some (xs.map SV.d)
  | .seq xs => if b = true then none else some xs
  | .tpl xs => if b = true then some xs else none
  | _ => none
def JO (K : PySem.W.Frag) (b : Bool) (a : Addr) : It := if b = true then Itt K a else Itl K a
theorem dps_pair {K : PySem.W.Frag} {F : Hp} : ∀ {ds : List PyData} {vs : List V}, DpAll K F vs ds → Paired (RVF K F) (ds.map SV.d) vs
  | [], _, r => by cases r; exact .nil
  | _ :: _, _, r => by
    cases r with
    | cons h t => exact .cons h (dps_pair t)
theorem itemsO_ok {K : PySem.W.Frag} {Γ : GI} {H : Hp} {h : MH} {a : Addr} {o : MO} {b : Bool} {xs : List SV} (rm : RM K Γ H h) (e : h a = some o) (e2 : itemsO b o = some xs) :
    ∃ vs, Paired (RVF K (Fz Γ H h)) xs vs ∧ ((b = false ∧ SqL K H a vs) ∨ (b = true ∧ SqT K H a vs)) := by
  obtain ⟨u, f1, f2⟩ := ro_at (rm.ob a o e)
  cases o with
  | lst ds =>
    cases b with
    | true => simp [itemsO] at e2
    | false =>
      simp [itemsO] at e2
      subst e2
      cases u <;> first | exact f2.elim | skip
      exact ⟨_, dps_pair f2, .inl ⟨rfl, SqL.of f1⟩⟩
  | seq ys =>
    cases b with
    | true => simp [itemsO] at e2
    | false =>
      simp [itemsO] at e2
      subst e2
      cases u <;> first | exact f2.elim | skip
      exact ⟨_, f2, .inl ⟨rfl, SqL.of f1⟩⟩
  | tpl ys =>
    cases b with
    | false => simp [itemsO] at e2
    | true =>
      simp [itemsO] at e2
      subst e2
      cases u <;> first | exact f2.elim | skip
      exact ⟨_, f2, .inr ⟨rfl, SqT.of f1⟩⟩
  | _ => simp [itemsO] at e2
theorem jo_stop {K : PySem.W.Frag} {H : Hp} {a : Addr} {b : Bool} {vs : List V} {i : Nat} (s : (b = false ∧ SqL K H a vs) ∨ (b = true ∧ SqT K H a vs)) (hl : vs.length ≤ i) : (JO K b a).stop i H := by
  rcases s with ⟨rfl, s⟩ | ⟨rfl, s⟩
  · exact ⟨vs, s, hl⟩
  · exact ⟨vs, s, hl⟩
theorem jo_go {K : PySem.W.Frag} {H : Hp} {a : Addr} {b : Bool} {vs : List V} {i : Nat} {v : V} (s : (b = false ∧ SqL K H a vs) ∨ (b = true ∧ SqT K H a vs)) (e : vs[i]? = some v) : (JO K b a).go i H := by
  rcases s with ⟨rfl, s⟩ | ⟨rfl, s⟩
  · exact ⟨vs, v, s, e⟩
  · exact ⟨vs, v, s, e⟩
theorem jo_yld {K : PySem.W.Frag} {H H' : Hp} {a : Addr} {b : Bool} {vs : List V} {i : Nat} {v x : V} (s : (b = false ∧ SqL K H a vs) ∨ (b = true ∧ SqT K H a vs)) (e : vs[i]? = some v) (y : (JO K b a).yld i H x H') : H' = H ∧ x = v := by
  rcases s with ⟨rfl, s⟩ | ⟨rfl, s⟩
  · obtain ⟨y1, y2⟩ := y
    have z := y2 vs s
    rw [e] at z
    exact ⟨y1, (Option.some.inj z).symm⟩
  · obtain ⟨y1, y2⟩ := y
    have z := y2 vs s
    rw [e] at z
    exact ⟨y1, (Option.some.inj z).symm⟩
/-- a target that takes what is one's own, too -/
def bindS (g : Tg) (x : SV) (h : MH) (σ : DSt) : Option DSt := match asTp h x, g with
  | some p, .tup is => if p.2.length = is.length then some (setAllS is p.2 σ) else none
  | some _, .nm i => some (σ.set i (some x))
  | some _, .star _ _ => none
  | none, g => bindT g x σ
theorem rawGsS_okW {K : PySem.W.Frag} {H : Hp} {h : MH} {Q : L2.St → Hp → Prop} : ∀ {is : List Nat} {vs : List V} {ds : List SV} {σd : DSt} {σ : L2.St}, Paired (RVF K (Fz Γ H h)) ds vs → ds.length = is.length → RSt K Γ H h σd σ →
    (∀ σ', RSt K Γ H h (setAllS is ds σd) σ' → (∀ l, (∀ i ∈ is, i ∈ l) → wipe σ' l = wipe σ l) → Q σ' H) → rawGs is vs σ H Q
  | [], _, [], _, _, hd, _, rs, k => by cases hd; exact ⟨rfl, k _ rs fun _ _ => rfl⟩
  | [], _, _ :: _, _, _, _, hl, _, _ => by simp at hl
  | _ :: _, _, [], _, _, _, hl, _, _ => by simp at hl
  | i :: r, _, d :: ds, σd, σ, hd, hl, rs, k => by
    cases hd with
    | cons h1 h2 =>
      refine ⟨_, _, rfl, ?_⟩
      exact rawGsS_okW h2 (by simpa using hl) (rs.set (rvf_rv h1)) fun σ' rs' hw => k σ' rs' fun l hl' => by
        rw [hw l fun j hj => hl' j (List.mem_cons_of_mem _ hj), wipe_set (hl' i List.mem_cons_self)]
theorem rawS_ok {K : PySem.W.Frag} {H : Hp} {h : MH} {g : Tg} {x : SV} {v : V} {σd σd' : DSt} {σ : L2.St} {Q : L2.St → Hp → Prop} (ns : g.isStar = false) (rv : RV K Γ H h x v) (rs : RSt K Γ H h σd σ) (rm : RM K Γ H h) (e : bindS g x h σd = some σd')
    (k : ∀ σ', RSt K Γ H h σd' σ' → (∀ l, (∀ i ∈ g.ix, i ∈ l) → wipe σ' l = wipe σ l) → Q σ' H) : rawT K g v σ H Q := by
  unfold bindS at e
  cases q : asTp h x with
  | none => rw [q] at e; exact rawT_ok ns rv rs e k
  | some p =>
    rw [q] at e
    cases g with
    | nm i =>
      cases e
      exact k _ (rs.set rv) fun l hl => wipe_set (hl i List.mem_cons_self)
    | star is z => cases e
    | tup is =>
      obtain ⟨vs, e2, e3, e4, e5⟩ := tp_at rm rv q
      have e' : (if p.2.length = is.length then some (setAllS is p.2 σd) else none) = some σd' := e
      by_cases hl : p.2.length = is.length
      · rw [if_pos hl] at e'
        cases e'
        exact ⟨p.1, vs, e2, SqT.of e4, by rw [← pairs_len e5]; exact hl, rawGsS_okW e5 hl rs fun σr rs' hw => k σr rs' hw⟩
      · rw [if_neg hl] at e'; cases e'
def forO (b : Bool) (g : Tg) (tb : DTS) (D : DEnds) (a : Addr) : Nat → Nat → DSt → MH → Prop
  | 0, _, _, _ => False
  | n + 1, i, σ, h => match h a with
    | some o => match itemsO b o with
      | some xs => match xs[i]? with
        | none => D.nx σ h
        | some x => match bindS g x h σ with
          | some σ1 => tb { nx := fun σ' h' => forO b g tb D a n (i + 1) σ' h', ct := fun σ' h' => forO b g tb D a n (i + 1) σ' h', bk := D.nx, rt := D.rt } σ1 h
          | none => False
      | none => False
    | none => False
def forGK (g : Tg) (tb : DTS) (D : DEnds) (σ : DSt) : DK := fun x h1 => match x with
  | .own a => ∃ b n, forO b g tb D a n 0 σ h1
  | .d (.list ds) => forL g tb D ds σ h1
  | .d (.tuple ds) => forL g tb D ds σ h1
  | _ => False
def dForG (te : DTE) (g : Tg) (tb : DTS) : DTS := fun D σ h => te σ h (forGK g tb D σ)
section
variable {X : Cx} {e : Expr} {te : DTE} {tg iter : Expr} {pos : Pos}
end
end DL

namespace DL
open PySem PySem.Spec PyProof.Rows L2
set_option autoImplicit true

def lcO (b : Bool) (g : Tg) (tt : DTT) (te : DTE) (σ : DSt) (a : Addr) : Nat → Nat → List PyData → MH → (List PyData → MH → Prop) → Prop
  | 0, _, _, _, _ => False
  | n + 1, i, acc, h, Q => match h a with
    | some o => match itemsO b o with
      | some xs => match xs[i]? with
        | none => Q acc h
        | some x => match bindS g x h σ with
          | some σ1 => tt σ1 h fun c h1 => if c = true then te σ1 h1 fun y h2 => match fz1 y h2 with
              | some (z, h3) => lcO b g tt te σ a n (i + 1) (acc ++ [z]) h3 Q
              | none => False
            else lcO b g tt te σ a n (i + 1) acc h1 Q
          | none => False
      | none => False
    | none => False
def lcGK (g : Tg) (tt : DTT) (te : DTE) (σ : DSt) (Q : List PyData → MH → Prop) : DK := fun x h1 => match x with
  | .own a => ∃ b n, n ≤ sizeLine ∧ lcO b g tt te σ a n 0 [] h1 Q
  | .d (.list ds) => ds.length ≤ sizeLine ∧ lcL g tt te σ ds [] h1 Q
  | .d (.tuple ds) => ds.length ≤ sizeLine ∧ lcL g tt te σ ds [] h1 Q
  | _ => False
def fLcG (tl : DTE) (g : Tg) (tt : DTT) (te : DTE) (vs : List Nat) : DTF := fun σ h Q => tl σ h (lcGK g tt te (wipeD σ vs) Q)
theorem lcO_mono {b : Bool} {g : Tg} {tt : DTT} {te : DTE} {σ : DSt} {a : Addr} (mt : Mono tt) (me : Mono te) {Q Q' : List PyData → MH → Prop} (k : ∀ x h, Q x h → Q' x h) : ∀ n i acc h, lcO b g tt te σ a n i acc h Q → lcO b g tt te σ a n i acc h Q'
  | 0, _, _, _, w => w
  | n + 1, i, acc, h, w => by
    unfold lcO at w ⊢
    split at w
    · split at w
      · split at w
        · exact k _ _ w
        · split at w
          · refine mt _ _ _ _ (fun c h1 w1 => ?_) w
            cases c with
            | true =>
              refine me _ _ _ _ (fun y h2 w2 => ?_) w1
              split at w2
              · exact lcO_mono mt me k n (i + 1) _ _ w2
              · exact w2
            | false => exact lcO_mono mt me k n (i + 1) _ _ w1
          · exact w
      · exact w
    · exact w
theorem lcGK_mono {g : Tg} {tt : DTT} {te : DTE} {σ : DSt} (mt : Mono tt) (me : Mono te) {Q Q' : List PyData → MH → Prop} (k : ∀ x h, Q x h → Q' x h) {x : SV} {h : MH} (w : lcGK g tt te σ Q x h) : lcGK g tt te σ Q' x h := by
  unfold lcGK at w ⊢
  split at w
  · obtain ⟨b, n, c, w⟩ := w; exact ⟨b, n, c, lcO_mono mt me k n 0 _ _ w⟩
  · exact ⟨w.1, lcL_mono mt me k _ _ _ w.2⟩
  · exact ⟨w.1, lcL_mono mt me k _ _ _ w.2⟩
  · exact w
theorem lc_own {K : PySem.W.Frag} {g : Tg} {tt : DTT} {te : DTE} {vs : List Nat} (mt : Mono tt) (me : Mono te) (hix : (g.ix.all (fun i => vs.contains i) && !g.isStar) = true) {σ : L2.St} {H H1 : Hp} {σd : DSt} {h h1 : MH} {Q : VK} {a D : Addr} {b : Bool} {n : Nat}
    (rs : RSt K Γ H h σd σ) (px : PX Γ H h H1 h1) (rm1 : RM K Γ H1 h1) (hD : H1 D = none) (hn : n ≤ sizeLine)
    (w1 : lcO b g tt te (wipeD σd vs) a n 0 [] h1 fun ds h' => ∀ ws H' p, PX Γ H h H' h' → DpAll K (Fz Γ H' h') ws ds → RM K Γ H' h' → H' p = none → Q (.ref p) (upd H' p (.lst ws))) :
    ∃ W : Nat → Nat → Hp → Prop, (∃ m, W 0 m (upd H1 D (.lst []))) ∧ ∀ i m H, W i m H →
      ((JO K b a).stop i H ∧ Q (.ref D) H) ∨ ((JO K b a).go i H ∧ ∃ Nx : Hp → Prop, (∀ H', Nx H' → ∃ m', m' < m ∧ W (i + 1) m' H') ∧ ∀ x H', (JO K b a).yld i H x H' → rawT K g x (L2.wipe σ vs) H' fun σ2 H2 => L2.wipe σ2 vs = L2.wipe σ vs ∧ (∃ Γ' : GI, Γ'.T = Γ.T ∧ liftB K Γ' tt σ2 H2 fun b H3 =>
        if b = true then (∃ Γ' : GI, Γ'.T = Γ.T ∧ liftV K Γ' te σ2 H3 fun y H4 => ∃ acc, H4 D = some (.lst acc) ∧ acc.length < sizeLine ∧ Nx (upd H4 D (.lst (acc ++ [y])))) else Nx H3)) := by
  have hsub : ∀ i, i ∈ g.ix → i ∈ vs := fun i hm => by simpa using List.all_eq_true.mp (Bool.and_eq_true_iff.mp hix).1 i hm
  have hns : g.isStar = false := by simpa using (Bool.and_eq_true_iff.mp hix).2
  have dx : D ∉ Γ.x := rm1.notx hD
  refine ⟨fun i m H' => i + m ≤ sizeLine ∧ ∃ h' acc, LcInv K Γ H1 h1 D (wipeD σd vs) (L2.wipe σ vs) i H' h' acc ∧ lcO b g tt te (wipeD σd vs) a m i acc h' (fun ds h' => ∀ ws H' p, PX Γ H h H' h' → DpAll K (Fz Γ H' h') ws ds → RM K Γ H' h' → H' p = none → Q (.ref p) (upd H' p (.lst ws))), ⟨n, by omega, h1, [], ?_, w1⟩, ?_⟩
  · have e0 : Sub (Fz Γ H1 h1) (Fz (Γ.more D) (upd H1 D (.lst [])) h1) := fun a o z => by
      obtain ⟨z1, z2, z3, z4⟩ := Fz.to z
      have ne := ne_of_none z1 hD
      exact Fz.ofH (by rw [upd_ne ne]; exact z1) z2 (fun m => (List.mem_cons.mp m).elim ne z3) z4
    refine ⟨⟨[], upd_same, .nil⟩, e0, fun a m => upd_ne fun z => dx (by rw [← z]; exact m), ⟨fun a m e => ?_, trivial, fun a m => ?_, tabs_upd rm1.tb (.inl hD)⟩, RSt.eqF e0 ((rs.up px).wipe vs), Nat.le_refl _⟩
    · exact ro_up (fun u f1 => by rw [upd_ne (ne_of_none f1 hD)]; exact f1) e0 (rm1.ob a m e)
    · rcases List.mem_cons.mp m with z | z
      · subst z; exact ⟨rm1.tracked hD, [], upd_same⟩
      · rw [upd_ne fun q => dx (by rw [← q]; exact z)]
        exact rm1.nx a z
  · rintro i m H' ⟨him, h', acc, inv, w2⟩
    cases m with
    | zero => exact w2.elim
    | succ m =>
      unfold lcO at w2
      split at w2
      · rename_i o e1
        split at w2
        · rename_i xs e2
          obtain ⟨vs', pr, sq⟩ := itemsO_ok inv.rm e1 e2
          split at w2
          · rename_i e3
            refine .inl ⟨jo_stop sq (by rw [← pairs_len pr]; exact List.getElem?_eq_none_iff.mp e3), ?_⟩
            obtain ⟨va, a1, a2⟩ := inv.at_
            have eF : Fz Γ (undo H' D) h' = Fz (Γ.more D) H' h' := fz_undo
            have hpx : PX Γ H1 h1 (undo H' D) h' := ⟨by show Sub _ (Fz Γ (undo H' D) h'); rw [eF]; exact inv.ex, fun a m => by rw [undo_ne fun q => dx (by rw [← q]; exact m)]; exact inv.kx a m⟩
            have r := w2 va (undo H' D) D (px.trans hpx) (by rw [eF]; exact a2) ⟨fun a m e => ?_, Γ.st hpx rm1.g, fun a m => ?_, tabs_but inv.rm.tb fun b o e n => by rw [undo_ne fun z => by rw [z, a1] at e; cases e; exact n (.inl rfl)]; exact e⟩ (if_pos rfl)
            · rw [upd_undo a1] at r
              exact r
            · have z := inv.rm.ob a m e
              have ne : a ≠ D := fun q => by
                have n := (inv.rm.nx D List.mem_cons_self).1
                rw [← q, e] at n; cases n
              exact ro_up (fun u f1 => by rw [undo_ne ne]; exact f1) (by rw [eF]; exact fun _ _ q => q) z
            · rw [undo_ne fun q => dx (by rw [← q]; exact m)]
              exact inv.rm.nx a (List.mem_cons_of_mem _ m)
          · rename_i x e3
            obtain ⟨v, e4, rv⟩ := pairs_get pr e3
            have fin : ∀ (h3 : MH) (H3 : Hp), PX (Γ.more D) H' h' H3 h3 → RM K (Γ.more D) H3 h3 → LcInv K Γ H1 h1 D (wipeD σd vs) (L2.wipe σ vs) (i + 1) H3 h3 acc := fun h3 H3 p3 rm3 => by
              obtain ⟨va, a1, a2⟩ := inv.at_
              exact ⟨⟨va, by rw [p3.kx D List.mem_cons_self]; exact a1, dps_up p3.ex _ _ a2⟩, fun a o z => p3.ex a o (inv.ex a o z), fun a m => (p3.kx a (List.mem_cons_of_mem _ m)).trans (inv.kx a m), rm3, inv.rs.up p3, Nat.le_succ_of_le inv.len⟩
            split at w2
            · rename_i σ1 e5
              refine .inr ⟨jo_go sq e4, fun H2 => (i + 1) + m ≤ sizeLine ∧ ∃ h' acc, LcInv K Γ H1 h1 D (wipeD σd vs) (L2.wipe σ vs) (i + 1) H2 h' acc ∧ lcO b g tt te (wipeD σd vs) a m (i + 1) acc h' (fun ds h' => ∀ ws H' p, PX Γ H h H' h' → DpAll K (Fz Γ H' h') ws ds → RM K Γ H' h' → H' p = none → Q (.ref p) (upd H' p (.lst ws))), fun H2 q => ⟨m, Nat.lt_succ_self m, q⟩, fun x' H2 y => ?_⟩
              obtain ⟨rfl, rfl⟩ := jo_yld sq e4 y
              refine rawS_ok hns (rvf_rv rv) inv.rs inv.rm e5 fun σr rsr hwp => ⟨by rw [hwp vs hsub, wipe_wipe], Γ.more D, rfl, ?_⟩
              refine lift_mk mt rsr inv.rm w2 fun c h3 k H3 px3 rs3 rb rm3 w3 => ?_
              subst rb
              cases c with
              | false => exact iteF ⟨by omega, h3, acc, fin h3 H3 px3 rm3, w3⟩
              | true =>
                refine iteT ⟨Γ.more D, rfl, ?_⟩
                refine lift_mk me rs3 rm3 w3 fun y h4 yv H4 px4 rs4 ry rm4 w4 => ?_
                split at w4
                · rename_i z h5 e6
                  obtain ⟨p5, rm5, rz⟩ := fz1_ok ry rm4 e6
                  have inv5 := fin h5 H4 ((px3.trans px4).trans p5) rm5
                  obtain ⟨va, a1, a2⟩ := inv5.at_
                  have eF : Fz (Γ.more D) (upd H4 D (.lst (va ++ [yv]))) h5 = Fz (Γ.more D) H4 h5 := fz_upd
                  have hl : acc.length < sizeLine := by
                    have := inv.len
                    omega
                  refine ⟨va, a1, by rw [dps_len a2]; exact hl, by omega, h5, acc ++ [z], ⟨⟨va ++ [yv], upd_same, ?_⟩, ?_, fun a m => ?_, ⟨fun a m e => ?_, trivial, fun a m => ?_, tabs_upd rm5.tb (.inr ⟨_, a1, .inl rfl⟩)⟩, ?_, ?_⟩, w4⟩
                  · rw [eF]; exact dps_app a2 (.cons rz .nil)
                  · rw [eF]; exact inv5.ex
                  · rw [upd_ne fun q => dx (by rw [← q]; exact m)]; exact inv5.kx a m
                  · have z := rm5.ob a m e
                    have ne : a ≠ D := fun q => by
                      have n := (rm5.nx D List.mem_cons_self).1
                      rw [← q, e] at n; cases n
                    exact ro_up (fun u f1 => by rw [upd_ne ne]; exact f1) (by rw [eF]; exact fun _ _ q => q) z
                  · by_cases q : a = D
                    · subst q; exact ⟨(rm5.nx a m).1, _, upd_same⟩
                    · rw [upd_ne q]
                      exact rm5.nx a m
                  · exact RSt.eqF (by rw [eF]; exact fun _ _ z => z) inv5.rs
                  · simp; have := inv.len; omega
                · exact w4.elim
            · exact w2.elim
        · exact w2.elim
      · exact w2.elim
theorem lcO_at {K : PySem.W.Frag} {Γ : GI} {H : Hp} {h : MH} {a : Addr} {b : Bool} {g : Tg} {tt : DTT} {te : DTE} {n : Nat} {σ : DSt} {acc : List PyData} {Q : List PyData → MH → Prop} (rm : RM K Γ H h) (w : lcO b g tt te σ a n 0 acc h Q) : ∃ vs, (b = false ∧ SqL K H a vs) ∨ (b = true ∧ SqT K H a vs) := by
  cases n with
  | zero => exact w.elim
  | succ n =>
    unfold lcO at w
    split at w
    · rename_i o e1
      split at w
      · rename_i xs e2
        obtain ⟨vs, _, sq⟩ := itemsO_ok rm e1 e2
        exact ⟨vs, sq⟩
      · exact w.elim
    · exact w.elim
theorem lcG_ok {K : PySem.W.Frag} {tl : DTE} {g : Tg} {tt : DTT} {te : DTE} {vs : List Nat} (hw : Mono tl) (mt : Mono tt) (me : Mono te) (hix : (g.ix.all (fun i => vs.contains i) && !g.isStar) = true) : ∀ σ H Q, liftF K Γ (fLcG tl g tt te vs) σ H Q →
    tLc (iSq K (liftV K Γ tl)) (rawT K g) (fun σ H Q => ∃ Γ' : GI, Γ'.T = Γ.T ∧ liftB K Γ' tt σ H Q) (fun σ H Q => ∃ Γ' : GI, Γ'.T = Γ.T ∧ liftV K Γ' te σ H Q) vs σ H Q := by
  rintro σ H Q ⟨σd, h, rs, rm, w0⟩
  refine lift_mk hw rs rm w0 fun x h1 v H1 px rs1 rv rm1 w1 => ?_
  unfold lcGK at w1
  split at w1
  · rename_i a
    obtain ⟨b, n, hn, w1⟩ := w1
    have ev : v = .ref a := rv
    subst ev
    obtain ⟨vs', sq⟩ := lcO_at rm1 w1
    have z := fun D (hD : H1 D = none) => lc_own mt me hix rs px rm1 hD hn w1
    refine ⟨a, rfl, ?_⟩
    rcases sq with ⟨rfl, sq⟩ | ⟨rfl, sq⟩
    · exact .inl ⟨vs', sq, z⟩
    · exact .inr ⟨vs', sq, z⟩
  · rename_i ds
    have rv' : Dp K (Fz Γ H1 h1) v (.list ds) := rv
    cases rv' with
    | @lst a vs' _ s1 dd => exact ⟨a, rfl, .inl ⟨vs', sqL_up fz_sub s1, fun D hD => lc_data mt me hix rs px rm1 (gives_list s1 dd) hD w1.1 w1.2⟩⟩
  · rename_i ds
    have rv' : Dp K (Fz Γ H1 h1) v (.tuple ds) := rv
    cases rv' with
    | @tup a vs' _ s1 dd => exact ⟨a, rfl, .inr ⟨vs', sqT_up fz_sub s1, fun D hD => lc_data mt me hix rs px rm1 (gives_tup s1 dd) hD w1.1 w1.2⟩⟩
  · exact w1.elim
section
variable {X : Cx} {e : Expr} {te : DTE} {tg iter : Expr} {pos : Pos}
theorem df_lcG {elt iter : Expr} {ifs : List Expr} {scope : Scope} {own : List (Str × Nat)} {tl : DTE} {g : Tg} {tt : DTT} {te : DTE} (hc : X.calm = true) (hN : X.N.Nodup) (hi : DE X Γ iter tl) (ok : BlkOk X.N X.env.scope scope own)
    (hg : ∀ (s : Shared) (H : Hp) (C : Addr) (cl : List (Str × Addr)) (fp : List Addr), DG (X.blk s H scope (compEnvC scope cl C X.env) fp) tg g) (hix : (g.ix.all (fun i => (own.map (·.2)).contains i) && !g.isStar) = true)
    (ht : ∀ (Γ' : GI), Γ'.T = Γ.T → ∀ (s : Shared) (H : Hp) (C : Addr) (cl : List (Str × Addr)) (fp : List Addr), DTs (X.blk s H scope (compEnvC scope cl C X.env) fp) Γ' ifs tt)
    (he : ∀ (Γ' : GI), Γ'.T = Γ.T → ∀ (s : Shared) (H : Hp) (C : Addr) (cl : List (Str × Addr)) (fp : List Addr), DE (X.blk s H scope (compEnvC scope cl C X.env) fp) Γ' elt te) (hs : ∀ x, foldedSetIterable iter X.env x = pure x := by intro _; rfl) :
    DF X Γ (.ListComp elt [⟨tg, iter, ifs, 0⟩] scope pos) (fLcG tl g tt te (own.map (·.2))) := by
  have mt : Mono tt := (ht Γ rfl ({} : Shared) (fun _ => none) 0 [] []).mono
  have me : Mono te := (he Γ rfl ({} : Shared) (fun _ => none) 0 [] []).mono
  refine ⟨fun σ h Q Q' k w => hi.mono _ _ _ _ (fun x h1 w1 => lcGK_mono mt me k w1) w, ?_⟩
  exact pe_imp (pe_lc (pos := pos) (wi := iSq X.K (liftV X.K Γ tl)) (g := rawT X.K g) hc hN (pi_sq hi.pe) ok (fun s H C cl fp => (hg s H C cl fp).pg)
    (fun s H C cl fp => ⟨fun pins s' σ H' Q I ⟨Γ', e, q⟩ => (ht Γ' e s H C cl fp).pts.run pins s' σ H' Q I q⟩) (fun s H C cl fp => ⟨fun pins s' σ H' Q I ⟨Γ', e, q⟩ => (he Γ' e s H C cl fp).pe.run pins s' σ H' Q I q⟩) hs) (lcG_ok hi.mono mt me hix)
end
section
variable {σ : DSt} {h : MH} {D : DEnds} {a : Addr} {g : Tg} {tb : DTS} {tl te : DTE} {tt : DTT} {vs : List Nat} {QL : List PyData → MH → Prop} {xs ds : List PyData}
theorem e_forG (k : tl σ h (forGK g tb D σ)) : dForG tl g tb D σ h := k
theorem k_forGT (k : forL g tb D ds σ h) : forGK g tb D σ (.d (.tuple ds)) h := k
theorem k_forGL (k : forL g tb D ds σ h) : forGK g tb D σ (.d (.list ds)) h := k
theorem e_fLcG (k : tl σ h (lcGK g tt te (wipeD σ vs) QL)) : fLcG tl g tt te vs σ h QL := k
theorem k_lcGT (k : ds.length ≤ sizeLine ∧ lcL g tt te σ ds [] h QL) : lcGK g tt te σ QL (.d (.tuple ds)) h := k
theorem k_lcGL (k : ds.length ≤ sizeLine ∧ lcL g tt te σ ds [] h QL) : lcGK g tt te σ QL (.d (.list ds)) h := k
theorem drop_at {α : Type} {xs r : List α} {d : α} {i : Nat} (e : d :: r = xs.drop i) : xs[i]? = some d ∧ r = xs.drop (i + 1) := by
  have hl : i < xs.length := by
    rcases Nat.lt_or_ge i xs.length with q | q
    · exact q
    · rw [List.drop_eq_nil_of_le q] at e; cases e
  rw [List.drop_eq_getElem_cons hl] at e
  injection e with e1 e2
  exact ⟨by rw [List.getElem?_eq_getElem hl, e1], e2⟩
theorem itemsO_lst {i : Nat} : itemsO false (.lst xs) = some (xs.map SV.d) := rfl
theorem lcO_inv (xs : List PyData) (I : List PyData → List PyData → MH → Prop) (keep : ∀ r acc h, I r acc h → h a = some (.lst xs))
    (step : ∀ d r acc h (K : List PyData → MH → Prop), I (d :: r) acc h → (∀ acc' h', I r acc' h' → K acc' h') → ∃ σ1, bindT g (.d d) σ = some σ1 ∧ tt σ1 h fun c h1 => if c = true then te σ1 h1 fun y h2 => match fz1 y h2 with
        | some (z, h3) => K (acc ++ [z]) h3
        | none => False
      else K acc h1)
    (fin : ∀ acc h, I [] acc h → QL acc h) : ∀ r i acc h, r = xs.drop i → I r acc h → lcO false g tt te σ a (r.length + 1) i acc h QL
  | [], i, acc, h, e, hi => by
    have hl : xs.length ≤ i := List.drop_eq_nil_iff.mp e.symm
    unfold lcO
    simp only [keep _ _ _ hi, itemsO_lst (i := i)]
    rw [List.getElem?_map, List.getElem?_eq_none hl]
    exact fin acc h hi
  | d :: r, i, acc, h, e, hi => by
    obtain ⟨e1, e2⟩ := drop_at e
    obtain ⟨σ1, b1, w⟩ := step d r acc h (fun acc' h' => lcO false g tt te σ a (r.length + 1) (i + 1) acc' h' QL) hi fun acc' h' hi' => lcO_inv xs I keep step fin r (i + 1) acc' h' e2 hi'
    show lcO false g tt te σ a (r.length + 1 + 1) i acc h QL
    unfold lcO
    simp only [keep _ _ _ hi, itemsO_lst (i := i)]
    rw [List.getElem?_map, e1]
    have b2 : bindS g (.d d) h σ = some σ1 := b1
    simp only [Option.map_some, b2]
    exact w
end
end DL

namespace DL
open PySem PySem.Spec PyProof.Rows L2
set_option autoImplicit true

theorem fnc_false {P : Program} {w : World} {K : PySem.W.Frag} {mg : Str → Option Value} {base : Heap} {T : List (Addr × Str)} {k : Nat} {x : Str} {ps : List Str} {st : Stmt} {f : Addr} {fd : FuncData} (F : Fun K x x st f fd) (hm : mg x = some (.ref f))
    (hb : ∀ (kV doc pm : Value) (an : Option Addr) (cdv ct : Value) (us : List Value), us.length = ps.length → bindArgs (PySem.W.fnOf x x (defArgs st) (defBody st) (defScope st) .none kV doc pm an cdv ct) ⟨us, []⟩ = pure (ps.zip us)) :
    FnC P w K mg base T k x ps (fun _ _ _ _ => False) :=
  fn_c F ⟨fun _ _ _ _ w => w.elim, fun _ _ _ _ _ _ _ _ w => w, fun A outer s H args us vs Q E _ _ _ _ _ w => by
    obtain ⟨xs, ds, h, rv, rm, w⟩ := w
    exact w.elim⟩ hm hb
end DL

namespace DL
open PySem PySem.Spec PyProof.Rows L2
set_option autoImplicit true

theorem perm_pull {α β : Type} (f : α → β) {l m : List β} (h : l.Perm m) : ∀ L : List α, m = L.map f → ∃ L' : List α, L'.Perm L ∧ l = L'.map f := by
  induction h with
  | nil =>
    intro L e
    cases L with
    | nil => exact ⟨[], .nil, rfl⟩
    | cons _ _ => cases e
  | cons x _ ih =>
    intro L e
    cases L with
    | nil => cases e
    | cons a L =>
      injection e with e1 e2
      obtain ⟨L', p, e3⟩ := ih L e2
      exact ⟨a :: L', p.cons a, by rw [e3, e1]; rfl⟩
  | swap x y l =>
    intro L e
    cases L with
    | nil => cases e
    | cons a L =>
      injection e with e1 e2
      cases L with
      | nil => cases e2
      | cons b L =>
        injection e2 with e2 e3
        exact ⟨b :: a :: L, .swap a b L, by rw [e1, e2, e3]; rfl⟩
  | trans _ _ ih1 ih2 =>
    intro L e
    obtain ⟨L1, p1, e1⟩ := ih2 L e
    obtain ⟨L2, p2, e2⟩ := ih1 L1 e1
    exact ⟨L2, p2.trans p1, e2⟩
section
variable {P : Program} {w : World} {A : Around} {E : Value → Shared → Prop} {s : Shared}
end
section
variable {X : Cx} {a b c : Expr} {ta : TE}
end
section
variable {X : Cx} {Γ : GI} {a b c e : Expr} {pos p2 : Pos} {ta tb tc te : DTE} {tg : Expr}
end
end DL

namespace DL
open PySem PySem.Spec PyProof.Rows L2 HT
set_option autoImplicit true

section
variable {prog : Program} {w : World} {A : Around} {E : Value → Shared → Prop} {s : Shared}
theorem places_back (n : Nat) : Builtin.Slice.slicePlaces ((n : Int) - 1) (-1) (-1) = n := by
  unfold Builtin.Slice.slicePlaces
  rw [if_neg (by decide)]
  by_cases h : (n : Int) - 1 > -1
  · rw [if_pos h]
    rw [show -(-1 : Int) = 1 by decide, Int.ediv_one]
    omega
  · rw [if_neg h]
    omega
theorem applied_back {sl : Addr} {vs : Value} {n : Nat} {Q : Int × Int × Nat → Shared → Prop} (hs : s.heap.IsSliceOf sl .none .none vs) (ps : IsPart vs (some (-1)))
    (h : Q ((n : Int) - 1, -1, n) s) : wpAny (model prog w) A (Builtin.Slice.sliceApplied (.ref sl) (pure (n : Int))) Q E s := by
  obtain ⟨os, hos, hcs, hds⟩ := id hs
  unfold Builtin.Slice.sliceApplied Builtin.Slice.sliceFields
  refine wpAny_bind (wpAny_bind (wpAny_field hos hds (x := .none) rfl (wpAny_bind (wpAny_field hos hds (x := .none) rfl (wpAny_bind (wpAny_field hos hds (x := vs) rfl (wpAny_pure ?_)))))))
  refine wpAny_bind (slicePart_ ps ?_)
  show wpAny _ _ (if ((-1 : Int) == 0) = true then _ else _) _ _ s
  rw [if_neg (by decide)]
  refine wpAny_bind (slicePart_none (wpAny_bind (slicePart_none (wpAny_bind (wpAny_pure ?_)))))
  show wpAny _ _ (pure ((n : Int) - 1, (-1 : Int), Builtin.Slice.slicePlaces ((n : Int) - 1) (-1) (-1))) _ _ s
  rw [places_back]
  exact wpAny_pure h
theorem pick_back (xs : Array Value) : ((List.range xs.size).filterMap fun (m : Nat) => xs[(((xs.size : Nat) : Int) - 1 + (m : Int) * (-1)).toNat]?).toArray = xs.toList.reverse.toArray := by
  congr 1
  have e : (List.range xs.size).filterMap (fun (m : Nat) => xs[(((xs.size : Nat) : Int) - 1 + (m : Int) * (-1)).toNat]?) = (List.range xs.size).filterMap (fun m => xs.toList.reverse[m]?) := by
    have go : ∀ l : List Nat, (∀ m ∈ l, m < xs.size) → l.filterMap (fun (m : Nat) => xs[(((xs.size : Nat) : Int) - 1 + (m : Int) * (-1)).toNat]?) = l.filterMap (fun m => xs.toList.reverse[m]?) := fun l => by
      induction l with
      | nil => exact fun _ => rfl
      | cons m l ih =>
        intro hm
        have hl := hm m List.mem_cons_self
        have e1 : (((xs.size : Nat) : Int) - 1 + (m : Int) * (-1)).toNat = xs.size - 1 - m := by omega
        rw [List.filterMap_cons, List.filterMap_cons, ih fun m hm' => hm m (List.mem_cons_of_mem _ hm'), e1, List.getElem?_reverse (by simpa using hl), Array.getElem?_toList, Array.length_toList]
    exact go _ fun m hm => List.mem_range.mp hm
  rw [e]
  have f : ∀ (l : List Value), (List.range l.length).filterMap (fun m => l[m]?) = l := fun l => by
    refine List.ext_getElem? fun i => ?_
    induction l generalizing i with
    | nil => rfl
    | cons a l ih =>
      rw [List.length_cons, List.range_succ_eq_map, List.filterMap_cons]
      simp only [List.getElem?_cons_zero, List.filterMap_map]
      cases i with
      | zero => rfl
      | succ i =>
        rw [List.getElem?_cons_succ, List.getElem?_cons_succ]
        exact ih i
  have := f xs.toList.reverse
  rwa [List.length_reverse, Array.length_toList] at this
theorem getItem_tuple_back {t sl : Addr} {items : Array Value} {vs : Value} {Q : Value → Shared → Prop} (ht : IsTup s.heap t items) (hs : s.heap.IsSliceOf sl .none .none vs) (ps : IsPart vs (some (-1)))
    (h : Q (.ref s.heap.objs.size) { s with heap := s.heap.push { cls := .type "tuple", data := .seq items.toList.reverse.toArray } })
    (hsz : items.size ≤ sizeLine) : wpAny (model prog w) A (getItem (.ref t) (.ref sl)) Q E s := by
  have htake : sizeOk (.seq items.toList.reverse.toArray) := by
    show (items.toList.reverse.toArray).size ≤ sizeLine
    rw [List.size_toArray, List.length_reverse, Array.length_toList]
    exact hsz
  obtain ⟨os, hos, hcs, hds⟩ := id hs
  have hTs : s.TypeIs (.ref sl) "slice" := ⟨os, hos, hcs⟩
  unfold getItem
  try with_reducible refine wpAny_holding ?_
  first | refine wpAny_bind (wpAny_pure ?_) | skip
  refine wpAny_bind (wpAny_sequenceKey ht.typeIs (by decide) ?_)
  refine wpAny_bind (wpAny_callSpecial?_slot (name := Str.ofString "__getitem__") ht.typeIs PyProof.Rows.slot_tuple_getitem
    (wpAny_call_entry PyProof.Rows.slot_tuple_getitem ht.typeIs entry_tuple_getitem ?_ (args_tuple_getitem _ _)))
  show wpAny _ _ (Builtin.Tuple.tupleItemsOf (.ref t) >>= _) _ _ s
  refine wpAny_bind (tupleItemsOf_ ht ?_)
  refine wpAny_bind (wpAny_typeOf hTs ?_)
  rw [if_pos (by decide)]
  refine wpAny_bind (applied_back hs ps ?_)
  have hno : ¬ ((((items.size : Nat) : Int) - 1 == 0 && (-1 : Int) == 1 && items.size == items.size) = true) := by
    intro q
    rw [Bool.and_eq_true, Bool.and_eq_true] at q
    exact absurd q.1.2 (by decide)
  show wpAny _ _ (if (((items.size : Nat) : Int) - 1 == 0 && (-1 : Int) == 1 && items.size == items.size) = true then _ else _) _ _ s
  rw [if_neg hno, pick_back]
  first
    | exact wpAny_bind (m := Builtin.Tuple.tupleExact _) (wpAny_newObj_type (wpAny_pure ⟨_, rfl, wpAny_pure h⟩) htake)
    | exact wpAny_bind (m := Builtin.Tuple.tupleExact _) (wpAny_newObj_type (wpAny_bind (wpAny_pure (wpAny_pure ⟨_, rfl, wpAny_pure h⟩))) htake)
    | exact wpAny_bind (wpAny_bind (m := Builtin.Tuple.tupleExact _) (wpAny_newObj_type (wpAny_pure (wpAny_pure ⟨_, rfl, wpAny_pure h⟩)) htake))
    | exact wpAny_bind (wpAny_bind (m := Builtin.Tuple.tupleExact _) (wpAny_newObj_type (wpAny_pure ⟨_, rfl, wpAny_pure h⟩) htake))
end
section
variable {X : Cx} {Γ : GI} {a b c e : Expr} {pos p2 : Pos} {ta tb tc te : DTE} {tg : Expr}
def tRevA (K : PySem.W.Frag) (te : TE) : TE := fun σ H Q => te σ H fun x H1 => ∃ a xs, x = .ref a ∧ ((SqL K H1 a xs ∧ ∀ p, H1 p = none → Q (.ref p) (upd H1 p (.lst xs.reverse))) ∨ (SqT K H1 a xs ∧ ∀ p, H1 p = none → Q (.ref p) (upd H1 p (.tup xs.reverse))))
theorem pe_revA {e : Expr} {te : TE} {k : Nat} {p1 p2 p3 pos : Pos} (he : PE X e te) : PE X (.Subscript e (.Slice none none (some (.UnaryOp .USub (.Constant (.int 1) k p1) p2)) p3) pos) (tRevA X.K te) := by
  refine ⟨fun pins s σ H Q I h => ?_⟩
  refine Subscript_ (thn (he.run pins s σ H _ I h) fun v s1 ⟨x, H1, I1, r1, q1⟩ => ?_)
  obtain ⟨a, xs, ex, q1⟩ := q1
  subst ex
  cases r1
  have hst : PO X (some (.UnaryOp .USub (.Constant (.int 1) k p1) p2)) (tPart (tUn (rU fun i => .int (-i)) (tC (.int 1)))) := po_some (pe_un un_neg pe_int)
  refine wpAny_Slice (thn (po_none.run pins s1 σ H1 (fun o H2 => o = none ∧ H2 = H1) I1 ⟨rfl, rfl⟩) fun vl s2 ⟨l, H2, I2, pl, el, e2⟩ => ?_)
  subst el e2
  refine thn (po_none.run pins s2 σ H2 (fun o H3 => o = none ∧ H3 = H2) I2 ⟨rfl, rfl⟩) fun vu s3 ⟨u, H3, I3, pu, eu, e3⟩ => ?_
  subst eu e3
  refine thn (hst.run pins s3 σ H3 (fun o H4 => o = some (-1) ∧ H4 = H3) I3 ⟨1, rfl, -1, rfl, rfl, rfl⟩) fun vs s4 ⟨o, H4, I4, ps, eo, e4⟩ => ?_
  subst eo e4
  have I5 : Inv X pins σ H4 { s4 with heap := s4.heap.push { cls := .type "slice", data := .fields #[vl, vu, vs] } } := I4.kept (t' := s4.toks) fun b ob q => Heap.get?_push_of_some _ q
  show wpAny (model X.prog X.w) X.A (subscriptTail e (.Slice none none (some (.UnaryOp .USub (.Constant (.int 1) k p1) p2)) p3) (.ref a) (.ref s4.heap.objs.size)) (EP X pins σ Q) X.xe { s4 with heap := s4.heap.push { cls := .type "slice", data := .fields #[vl, vu, vs] } }
  rcases q1 with ⟨hx, q⟩ | ⟨hx, q⟩
  · obtain ⟨its, r, ht, hz⟩ := I5.list hx
    have hlen := r.length
    refine tail_any (ops := [.ref a, .ref s4.heap.objs.size]) ht.isList.typeIs (PySem.slot_list_getitem.lookup) ?_ (by with_unfolding_all rfl)
    refine wpAny_getItem_list_slice ht.isList (Heap.IsSliceOf.new _ vl vu vs) pl pu ps (by decide) ?_ (by rw [List.size_toArray]; omega)
    rw [PySem.W.krv_pick]
    refine ⟨.ref _, _, I5.laid (t' := s4.toks) (o := .lst xs.reverse) (fun b ob q => Heap.get?_push_of_some _ q) (Nat.le_refl _) ?_, rfl, q _ (I5.hok.fresh (Nat.le_refl _))⟩
    exact ⟨by rw [List.length_reverse]; exact hz, _, 0, r.reverse, Heap.get?_push_size _ rfl⟩
  · cases pl
    cases pu
    obtain ⟨its, r, ht, hz⟩ := I5.tuple hx
    have hlen := r.length
    refine tail_any (ops := [.ref a, .ref s4.heap.objs.size]) ht.typeIs (PyProof.Rows.slot_tuple_getitem.lookup) ?_ (by with_unfolding_all rfl)
    refine getItem_tuple_back ht (Heap.IsSliceOf.new _ .none .none vs) ps ?_ (by rw [List.size_toArray]; omega)
    refine ⟨.ref _, _, I5.laid (t' := s4.toks) (o := .tup xs.reverse) (fun b ob q => Heap.get?_push_of_some _ q) (Nat.le_refl _) ?_, rfl, q _ (I5.hok.fresh (Nat.le_refl _))⟩
    exact ⟨by rw [List.length_reverse]; exact hz, _, r.reverse, IsTup.new _ _⟩
def dRevA (te : DTE) : DTE := fun σ h Q => te σ h fun x h1 => match asL h1 x with
  | some xs => Q (.d (.list xs.reverse)) h1
  | none => match asT x with
    | some xs => Q (.d (.tuple xs.reverse)) h1
    | none => False
theorem de_revA {k : Nat} {p1 p2 p3 : Pos} (he : DE X Γ e te) : DE X Γ (.Subscript e (.Slice none none (some (.UnaryOp .USub (.Constant (.int 1) k p1) p2)) p3) pos) (dRevA te) :=
  ⟨fun σ h Q Q' k w => he.mono _ _ _ _ (fun x h1 w1 => by
    split at w1
    · exact k _ _ w1
    · split at w1
      · exact k _ _ w1
      · exact w1) w, pe_imp (pe_revA he.pe) fun σ H Q ⟨σd, h, rs, rm, w⟩ => lift_mk he.mono rs rm w fun x h1 v H1 px rs1 rv rm1 w1 => by
      split at w1
      · rename_i xs e1
        obtain ⟨a, vs, rfl, s1, d1⟩ := asL_ok rv rm1 e1
        refine ⟨a, vs, rfl, .inl ⟨s1, fun p hp => ?_⟩⟩
        obtain ⟨p2, rm2, rv2⟩ := new_list hp rm1 (dps_rev d1)
        exact w1 _ _ (px.trans p2) rv2 rm2
      · split at w1
        · rename_i xs e1
          obtain ⟨a, vs, rfl, s1, d1⟩ := asT_ok rv e1
          refine ⟨a, vs, rfl, .inr ⟨s1, fun p hp => ?_⟩⟩
          obtain ⟨p2, rm2, rv2⟩ := new_tup hp rm1 (dps_rev d1)
          exact w1 _ _ (px.trans p2) rv2 rm2
        · exact w1.elim⟩
theorem e_revA {σ : DSt} {h : MH} {Q : DK} {t : DTE} (k : t σ h fun x h1 => match asL h1 x with
  | some xs => Q (.d (.list xs.reverse)) h1
  | none => match asT x with
    | some xs => Q (.d (.tuple xs.reverse)) h1
    | none => False) : dRevA t σ h Q := k
end
end DL

namespace DL
open PySem PySem.Spec PyProof.Rows L2
set_option autoImplicit true

def rCountD (K : PySem.W.Frag) : V → List V → Hp → VK → Prop := fun x xs H Q => ∃ (a : Addr) (y : V) (d : PyData) (ds : List PyData), x = V.ref a ∧ xs = [y] ∧ Dp K H (V.ref a) (.list ds) ∧ Dp K H y d ∧
  SeqAt.shaped (.list ds) = true ∧ SeqAt.shaped d = true ∧ Q (.int ((ds.countP fun z => PyData.eqv z d : Nat))) H
theorem mt_countD {X : Cx} (hu : X.A.units + 65 < cLine) : MtR X "list.count" (rCountD X.K) := by
  intro pins s σ H x xs v us Q I rx rxs h
  obtain ⟨a, y, d, ds, rfl, rfl, hl, hy, sl, sd, q⟩ := h
  cases rx
  cases rxs with
  | cons ry rt =>
    rename_i uy ut
    cases rt
    obtain ⟨bs, r1⟩ := Dp.reads I d y uy hy ry
    have hxs : PyData.canLayAll0 ds = true := SeqAt.canLay_of_shaped sl
    have hroom : X.A.units + 1 + min (PyData.depthAll ds) d.depth < cLine := room_in_shaped sd hu
    cases hl with
    | lst hs ha =>
      obtain ⟨its, rv, ⟨⟨cls, dd, data, sls⟩, n, ho, hc, hdn, hdt⟩, hlen⟩ := I.list hs
      simp only at hc hdt
      subst hc hdt
      obtain ⟨as, h4⟩ := Dp.readsAll I ds _ its ha rv
      have hmap : its.map (SeqAt.readOf s.heap) = ds := SeqAt.readsAll_map ds its as hxs h4
      have hcount : (its.toArray.toList.countP fun u => PyData.eqv (SeqAt.readOf s.heap u) d) = ds.countP fun z => PyData.eqv z d := by
        rw [← hmap, List.countP_map]
        rfl
      refine call_meets PySem.F.slot_list_count ⟨_, ho, rfl⟩ PySem.F.entry_list_count (PySem.F.args_list_count_2 _ _)
        (SeqAt.list_countAt a its.toArray n dd sls uy (fun u => PyData.eqv (SeqAt.readOf s.heap u) d)) ⟨ho, SeqAt.items_eqAt (vs := its.toArray) (show ReadsAll s.heap its.toArray.toList ds as from h4) r1 hxs (SeqAt.canLay_of_shaped sd) hroom, ?_⟩
      rw [hcount]
      exact ⟨.int (ds.countP fun z => PyData.eqv z d : Nat), H, I.tok _, ⟨_, rfl⟩, q⟩
def rdCount : DRM := fun x xs h Q => match xs with
  | [y] => match asL h x, asD h y with
    | some ds, some d => SeqAt.shaped (.list ds) = true ∧ SeqAt.shaped d = true ∧ Q (.d (.int ((ds.countP fun z => PyData.eqv z d : Nat)))) h
    | _, _ => False
  | _ => False
theorem lm_count {K : PySem.W.Frag} : LRM K Γ rdCount (rCountD K) := by
  refine ⟨fun x xs h Q Q' k w => ?_, fun x v xs vs H h C Q rv r rm w k => ?_⟩
  · unfold rdCount at w ⊢
    split at w
    · split at w
      · exact ⟨w.1, w.2.1, k _ _ w.2.2⟩
      · exact w
    · exact w
  · unfold rdCount at w
    split at w
    · obtain ⟨u, rfl, ru⟩ := rvs1 r
      split at w
      · rename_i ds d e1 e2
        have rd := asD_ok rv rm (asL_D e1)
        have ry := asD_ok ru rm e2
        cases rd with
        | @lst a zs _ q1 q2 => exact ⟨a, u, d, ds, rfl, rfl, .lst q1 q2, ry, w.1, w.2.1, k _ _ _ H PX.refl rv_int rm w.2.2⟩
      · exact w.elim
    · exact w.elim
section
variable {X : Cx} {Γ : GI} {pos p1 p2 p3 p4 : Pos} {a b o1 i1 o2 i2 : Expr} {ta : DTA} {to1 ti1 to2 ti2 : DTE}
end
end DL

namespace DL
open PySem PySem.Spec PyProof.Rows L2
set_option autoImplicit true

abbrev DSpE := Addr → DExc → MH → DK → Prop
def MonoE (W : DSpE) : Prop := ∀ a y h (Q Q' : DK), (∀ x h', Q x h' → Q' x h') → W a y h Q → W a y h Q'
def liftSpE (K : PySem.W.Frag) (T : List (Addr × Str)) (W : DSpE) (a : Addr) (y : DExc) (d : Option Addr) (H : Hp) (Q : VK) : Prop := ∃ (xs : List Addr) (h : MH), RX K (G0 xs T) H h y (.ref (He.ga K y.cls)) d ∧ RM K (G0 xs T) H h ∧
  W a y h fun r h' => ∀ v H', PXx xs H h H' h' → RV K (G0 xs T) H' h' r v → RM K (G0 xs T) H' h' → Q v H'
structure FnE (P : Program) (w : World) (K : PySem.W.Frag) (mg : Str → Option Value) (base : Heap) (T : List (Addr × Str)) (k : Nat) (f : Addr) (fd : FuncData) (p : Str) (W : DSpE) : Prop where
  mono : MonoE W
  run : ∀ (A : Around) (outer : List Env) (s : Shared) (H : Hp) (args : Args) (a : Addr) (oe : Obj) (y : DExc) (d : Option Addr) (Q : VK), L2H.RoomH k A → A.guards = some [] → Zc (.ref (He.ga K y.cls)) d oe → (∃ vs, oe.data = .fields vs) → L2H.PinOk outer H s (a, oe) →
    Env0 P w K mg base (A.mark (some (.ref a))) outer s H → BindsTo s fd args [(p, .ref a)] → liftSpE K T W a y d H Q → codeAny (model P w) (A.mark (some (.ref a))) (.call (.ref f) args) (CR (L2.CX P w) outer P w H s Q fun _ _ _ => False) s
theorem FnE.up {P : Program} {w : World} {K : PySem.W.Frag} {mg : Str → Option Value} {base : Heap} {T : List (Addr × Str)} {j k : Nat} {f : Addr} {fd : FuncData} {p : Str} {W : DSpE} (F : FnE P w K mg base T j f fd p W) (h : j ≤ k) : FnE P w K mg base T k f fd p W :=
  ⟨F.mono, fun A outer s H args a oe y d Q hr => F.run A outer s H args a oe y d Q (hr.mono h)⟩
section
variable {P : Program} {w : World} {K : PySem.W.Frag} {mg : Str → Option Value} {base : Heap}
end
def FnEC (P : Program) (w : World) (K : PySem.W.Frag) (mg : Str → Option Value) (base : Heap) (T : List (Addr × Str)) (k : Nat) (x : Str) (p : Str) (W : DSpE) : Prop :=
  ∃ f fd, FnE P w K mg base T k f fd p W ∧ PySem.W.keepIn K (.ref f) = true ∧ Binds K fd [p] [] ∧ mg x = some (.ref f)
theorem FnEC.up {P : Program} {w : World} {K : PySem.W.Frag} {mg : Str → Option Value} {base : Heap} {T : List (Addr × Str)} {j k : Nat} {x : Str} {p : Str} {W : DSpE} (F : FnEC P w K mg base T j x p W) (h : j ≤ k) : FnEC P w K mg base T k x p W := by
  obtain ⟨f, fd, a, b⟩ := F
  exact ⟨f, fd, a.up h, b⟩
section
variable {X : Cx} {Γ1 : GI} {a : Addr} {oe : Obj} {y : DExc} {d : Option Addr} {pn : List (Addr × Obj)} {x n pp : Str} {pos p p1 : Pos} {T : List (Addr × Str)} {k : Nat} {W : DSpE}
end
end DL

namespace DL
open PySem PySem.Spec PyProof.Rows L2
set_option autoImplicit true

def dcL (g : Tg) (tt : DTT) (tk tv : DTE) (σ : DSt) (p : Addr) : List PyData → MH → (MH → Prop) → Prop
  | [], h, Q => Q h
  | d :: r, h, Q => match bindT g (.d d) σ with
    | some σ1 => tt σ1 h fun b h1 => if b = true then tk σ1 h1 fun x h2 => tv σ1 h2 fun y h3 => match asKey x, asDc h3 (.own p) with
        | some k, some q => q.2.length < sizeLine ∧ dcL g tt tk tv σ p r (mput h3 p (.dct (putS q.2 k y))) Q
        | _, _ => False
      else dcL g tt tk tv σ p r h1 Q
    | none => False
def dDc (w : DTI) (g : Tg) (tt : DTT) (tk tv : DTE) (vs : List Nat) : DTE := fun σ h Q => w σ h fun ds h1 => ∀ p, h1 p = none → dcL g tt tk tv (wipeD σ vs) p ds (mput h1 p (.dct [])) fun h2 => Q (.own p) h2
section
variable {X : Cx} {tg : Expr} {pos : Pos}
end
section
variable {σ : DSt} {h : MH} {Q : DK} {p : Addr}
theorem e_dc {w : DTI} {g : Tg} {tt : DTT} {tk tv : DTE} {vs : List Nat} (k : w σ h fun ds h1 => ∀ p, h1 p = none → dcL g tt tk tv (wipeD σ vs) p ds (mput h1 p (.dct [])) fun h2 => Q (.own p) h2) : dDc w g tt tk tv vs σ h Q := k
end
def dTupRg1 (ta : DTE) : DTE := fun σ h Q => ta σ h fun x h1 => match asInt x with
  | some n => n ≤ 16777216 ∧ -16777216 ≤ n ∧ Q (.d (.tuple (rgD 0 n))) h1
  | none => False
section
variable {X : Cx} {a : Expr} {pos : Pos} {ta : DTE}
theorem de_tupRg1 {p p3 pos3 : Pos} (hc : X.calm = true) (hg : Gl X "tuple") (hm : X.mg "tuple" = none) (hg2 : Gl X "range") (hm2 : X.mg "range" = none) (ha : DE X Γ a ta)
    (na : starEach [a] X.env = (false, eval a X.env) :: starEach [] X.env := by rfl) (na2 : starEach [Expr.Call (.Name "range" p3) [a] [] pos3] X.env = (false, eval (Expr.Call (.Name "range" p3) [a] [] pos3) X.env) :: starEach [] X.env := by rfl) :
    DE X Γ (.Call (.Name "tuple" p) [.Call (.Name "range" p3) [a] [] pos3] [] pos) (dTupRg1 ta) :=
  ⟨fun σ h Q Q' k w => ha.mono _ _ _ _ (fun x h1 w1 => by
    split at w1
    · exact ⟨w1.1, w1.2.1, k _ _ w1.2.2⟩
    · exact w1) w, pe_imp (pe_tupRg hc hg hm (prg_1 hg2 hm2 ha.pe na) na2) fun σ H Q ⟨σd, h, rs, rm, w⟩ => lift_mk ha.mono rs rm w fun x h1 v H1 px rs1 rv rm1 w1 => by
      split at w1
      · rename_i n e1
        refine ⟨n, asInt_ok rv e1, rgOk_of (by omega) (by omega) w1.2.1 w1.1, fun q hq => ?_⟩
        obtain ⟨p1, r1, v1⟩ := new_tup hq rm1 (dps_rg 0 n)
        exact w1.2.2 _ _ (px.trans p1) v1 r1
      · exact w1.elim⟩
end
def tupRgK (Q : DK) : DK := fun x h1 => match asInt x with
  | some n => n ≤ 16777216 ∧ -16777216 ≤ n ∧ Q (.d (.tuple (rgD 0 n))) h1
  | none => False
theorem e_tupRg {ta : DTE} {σ : DSt} {h : MH} {Q : DK} (k : ta σ h (tupRgK Q)) : dTupRg1 ta σ h Q := k
theorem k_tupRg {n : Int} {h : MH} {Q : DK} (h1 : n ≤ 16777216) (h2 : -16777216 ≤ n) (k : Q (.d (.tuple (rgD 0 n))) h) : tupRgK Q (.d (.int n)) h := ⟨h1, h2, k⟩
end DL

namespace DL
open PySem PySem.Spec PyProof.Rows L2
set_option autoImplicit true

section
variable {X : Cx} {a : Expr} {ta : TE}
def fSortSetQ (ta : DTE) : DTF := fun σ h Q => ta σ h fun x h1 => match x with
  | .d (.tuple ds) => ∃ ns : List Int, ds = ns.map PyData.int ∧ ns.length < 64 ∧ ∀ ms : List Int, ms.Pairwise (· < ·) → (∀ k : Int, k ∈ ms ↔ k ∈ ns) → Q (ms.map PyData.int) h1
  | _ => False
end
def sortSetQK (QL : List PyData → MH → Prop) : DK := fun x h1 => match x with
  | .d (.tuple ds) => ∃ ns : List Int, ds = ns.map PyData.int ∧ ns.length < 64 ∧ ∀ ms : List Int, ms.Pairwise (· < ·) → (∀ k : Int, k ∈ ms ↔ k ∈ ns) → QL (ms.map PyData.int) h1
  | _ => False
theorem e_sortSetQ {ta : DTE} {σ : DSt} {h : MH} {QL : List PyData → MH → Prop} (k : ta σ h (sortSetQK QL)) : fSortSetQ ta σ h QL := k
end DL

namespace DL
open PySem PySem.Spec PyProof.Rows L2
set_option autoImplicit true

section
variable {prog : Program} {w : World} {A : Around} {s : Shared}
/-- v, a tuple whose third thing is the int r -/
def Hd3 (h : Heap) (v : Value) (r : Int) : Prop := ∃ a its, v = .ref a ∧ IsTup h a its ∧ ∃ u : Tok, its[2]? = some (.int r u)
theorem Hd3.keeps {h h' : Heap} {v : Value} {r : Int} (k : ∀ b o, h.get? b = some o → h'.get? b = some o) (x : Hd3 h v r) : Hd3 h' v r := by
  obtain ⟨a, its, e, ⟨o, g1, g2, n, g3⟩, y⟩ := x
  exact ⟨a, its, e, ⟨o, k _ _ g1, g2, n, g3⟩, y⟩
end

end DL

namespace DL
open PySem PySem.Spec PyProof.Rows L2
set_option autoImplicit true

section
def rdStrI : DRA := fun xs h Q => match xs with
  | [x] => match asInt x with
    | some i => i.natAbs.log2 < 1920 ∧ Q (.d (.str (toString i))) h
    | none => False
  | _ => False
theorem la_strI {K : PySem.W.Frag} : LRA K Γ rdStrI (fun xs H Q => ∃ i, xs = [.int i] ∧ i.natAbs.log2 < 1920 ∧ Q (.str (toString i)) H) := by
  refine ⟨fun xs h Q Q' k w => ?_, fun xs vs H h C Q r rm w k => ?_⟩
  · unfold rdStrI at w ⊢
    split at w
    · split at w
      · exact ⟨w.1, k _ _ w.2⟩
      · exact w
    · exact w
  · unfold rdStrI at w
    split at w
    · obtain ⟨v, rfl, rv⟩ := rvs1 r
      split at w
      · rename_i i e1
        exact ⟨i, by rw [asInt_ok rv e1], w.1, k _ _ _ H PX.refl rv_str rm w.2⟩
      · exact w.elim
    · exact w.elim
end

section
variable {h : MH} {Q : DK}
theorem b_strI {i : Int} (c : i.natAbs.log2 < 1920) (k : Q (.d (.str (toString i))) h) : rdStrI [.d (.int i)] h Q := ⟨c, k⟩
end
end DL

namespace DL
open PySem PySem.Spec PyProof.Rows L2
set_option autoImplicit true

def asIns (h : MH) : SV → Option (Addr × Str × List (Str × SV))
  | .own a => match h a with
    | some (.ins C fs) => some (a, C, fs)
    | _ => none
  | _ => none
def putFd (f : Str) (y : SV) : List (Str × SV) → List (Str × SV)
  | [] => [(f, y)]
  | p :: r => if p.1 = f then (p.1, y) :: r else p :: putFd f y r
theorem asIns_own {h : MH} {a : Addr} {C : Str} {fs : List (Str × SV)} (e : h a = some (.ins C fs)) : asIns h (.own a) = some (a, C, fs) := by
  unfold asIns
  dsimp only
  rw [e]
section
variable {K : PySem.W.Frag} {H F : Hp} {h : MH} {x : SV} {v : V}
end
def fldK (C f : Str) (Q : DK) : DK := fun x h1 => match asIns h1 x with
  | some p => p.2.1 = C ∧ (match p.2.2.lookup f with
    | some y => Q y h1
    | none => False)
  | none => False
def dFld (te : DTE) (C f : Str) : DTE := fun σ h Q => te σ h (fldK C f Q)
section
variable {X : Cx} {e o value : Expr} {te to tv : DTE} {pos pos' : Pos} {C f : Str}
def sfldK (C f : Str) (y : SV) (D : DEnds) (σ : DSt) : DK := fun x h2 => match asIns h2 x with
  | some p => p.2.1 = C ∧ p.2.2.length < 1000 ∧ D.nx σ (mput h2 p.1 (.ins C (putFd f y p.2.2)))
  | none => False
def dSFld (tv to : DTE) (C f : Str) : DTS := fun D σ h => tv σ h fun y h1 => to σ h1 (sfldK C f y D σ)
end
def FnM (P : Program) (w : World) (K : PySem.W.Frag) (mg : Str → Option Value) (base : Heap) (T : List (Addr × Str)) (k : Nat) (C m : Str) (ps : List Str) (W : DSp) : Prop :=
  ∃ f fd, FnG P w K mg base T k f fd ps W ∧ Binds K fd ps [] ∧ Meth K (He.ga K C) m f ∧ Cls K (He.ga K C)
theorem FnM.up {P : Program} {w : World} {K : PySem.W.Frag} {mg : Str → Option Value} {base : Heap} {T : List (Addr × Str)} {j k : Nat} {C m : Str} {ps : List Str} {W : DSp} (F : FnM P w K mg base T j C m ps W) (h : j ≤ k) : FnM P w K mg base T k C m ps W := by
  obtain ⟨f, fd, a, b⟩ := F
  exact ⟨f, fd, a.up h, b⟩
def isM (C m : Str) (h : MH) (x : SV) : Prop := match asIns h x with
  | some p => p.2.1 = C ∧ p.2.2.lookup m = none
  | none => False
def dMeth (E : DXS) (C m : Str) (W : DSp) (te : DTE) (t : DTA) : DTE := fun σ h Q => te σ h fun x h1 => isM C m h1 x ∧ t σ h1 fun xs h2 => W (x :: xs) h2 Q fun z h3 => E z σ h3
section
variable {X : Cx} {k : Nat} {ps : List Str} {W : DSp} {E : DXS} {C m : Str} {p pos apos : Pos} {o e : Expr} {es : List Expr} {te : DTE} {t : DTA} {T : List (Addr × Str)}
end
def FnI (P : Program) (w : World) (K : PySem.W.Frag) (mg : Str → Option Value) (base : Heap) (T : List (Addr × Str)) (k : Nat) (C : Str) (ps : List Str) (z : Shape) (W : DSp) : Prop :=
  ∃ f fd mv, FnG P w K mg base T k f fd ps W ∧ KBn K fd ps (z.n + 1) z.ks (fun us ws => us ++ pick z.cs mv ws) (fun vs zs => vs ++ pick z.cs (z.dm.map cvV) zs) ∧ Mk K (He.ga K C) f ∧ mg C = some (.ref (He.ga K C))
theorem FnI.up {P : Program} {w : World} {K : PySem.W.Frag} {mg : Str → Option Value} {base : Heap} {T : List (Addr × Str)} {j k : Nat} {C : Str} {ps : List Str} {z : Shape} {W : DSp} (F : FnI P w K mg base T j C ps z W) (h : j ≤ k) : FnI P w K mg base T k C ps z W := by
  obtain ⟨f, fd, mv, a, b⟩ := F
  exact ⟨f, fd, mv, a.up h, b⟩
section
variable {X : Cx} {k : Nat} {ps : List Str} {W : DSp} {E : DXS} {C : Str} {p pos : Pos} {e : Expr} {es : List Expr} {kws : List Keyword} {t tk : DTA} {T : List (Addr × Str)} {z : Shape}
end
section
variable {σ : DSt} {h : MH} {Q : DK} {a : Addr} {C f m : Str} {fs : List (Str × SV)} {y : SV}
theorem e_fld {te : DTE} (k : te σ h (fldK C f Q)) : dFld te C f σ h Q := k
theorem k_fld (e : h a = some (.ins C fs)) (e2 : fs.lookup f = some y) (k : Q y h) : fldK C f Q (.own a) h := by
  unfold fldK
  rw [asIns_own e]
  dsimp only
  rw [e2]
  exact ⟨rfl, k⟩
theorem e_sfld {tv to : DTE} {D : DEnds} (k : tv σ h fun y h1 => to σ h1 (sfldK C f y D σ)) : dSFld tv to C f D σ h := k
theorem e_meth {E : DXS} {W : DSp} {te : DTE} {t : DTA} (k : te σ h fun x h1 => isM C m h1 x ∧ t σ h1 fun xs h2 => W (x :: xs) h2 Q fun z h3 => E z σ h3) : dMeth E C m W te t σ h Q := k
end
end DL

namespace DL
open PySem PySem.Spec PyProof.Rows L2
set_option autoImplicit true

structure ZAt (z TI TO i1 i2 l1 l2 S : Addr) (xs ys : Array Value) (i : Nat) (h : Heap) : Prop where
  ti : IsPair h TI (.ref i1) (.ref i2)
  a1 : h.IsListIter i1 l1 i
  a2 : h.IsListIter i2 l2 i
  b1 : h.IsList l1 xs
  b2 : h.IsList l2 ys
  to : ∃ o, h.get? TO = some o
  zz : (IsZip h z TI TO .none ∧ ∃ a b, IsPair h TO a b) ∨ ∃ T f oT, IsZipHeld h z TI TO T f ∧ h.get? T = some oT ∧ T ∉ [z, i1, i2, S]
abbrev zsix (z TI TO i1 i2 l1 l2 : Addr) : List Addr := [z, TI, TO, i1, i2, l1, l2]
theorem ZAt.keep {z TI TO i1 i2 l1 l2 S : Addr} {xs ys : Array Value} {i : Nat} {h h' : Heap} (st : ZAt z TI TO i1 i2 l1 l2 S xs ys i h) (off : S ∉ zsix z TI TO i1 i2 l1 l2) (k : ∀ b o, b ≠ S → h.get? b = some o → h'.get? b = some o) : ZAt z TI TO i1 i2 l1 l2 S xs ys i h' := by
  have ne : ∀ c, c ∈ zsix z TI TO i1 i2 l1 l2 → c ≠ S := fun c hc e => off (e ▸ hc)
  obtain ⟨ti, a1, a2, b1, b2, ⟨ot, to⟩, zz⟩ := st
  refine ⟨k _ _ (ne _ (by simp)) ti, a1.at fun o e => k _ o (ne _ (by simp)) e, a2.at fun o e => k _ o (ne _ (by simp)) e, b1.at fun o e => k _ o (ne _ (by simp)) e, b2.at fun o e => k _ o (ne _ (by simp)) e, ⟨ot, k _ _ (ne _ (by simp)) to⟩, ?_⟩
  rcases zz with ⟨q, a, b, p⟩ | ⟨T, f, oT, q, p, n⟩
  · exact .inl ⟨k _ _ (ne _ (by simp)) q, a, b, k _ _ (ne _ (by simp)) p⟩
  · exact .inr ⟨T, f, oT, k _ _ (ne _ (by simp)) q, k _ _ (fun e => n (by simp [e])) p, n⟩
section
variable {P : Program} {w : World} {A : Around} {E : Value → Shared → Prop} {s : Shared} {z TI TO i1 i2 l1 l2 S : Addr} {xs ys : Array Value}
end
section
variable {X : Cx} {pins : List (Addr × Obj)} {σ : L2.St} {A : Around} {z TI TO i1 i2 l1 l2 S : Addr} {xs ys : Array Value} {vs ws : List V}
end
section
variable {X : Cx} {pins : List (Addr × Obj)} {σ : L2.St} {A : Around} {s : Shared} {z TI TO i1 i2 l1 l2 : Addr} {xs ys : Array Value} {vs ws : List V}
end
section
variable {X : Cx} {a b : Expr} {p p2 pos pos2 : Pos} {ta tb : DTE}
end
section
variable {σ : DSt} {h : MH} {QL : List PyData → MH → Prop}
end
end DL

namespace DL
open PySem PySem.Spec PyProof.Rows L2
set_option autoImplicit true

def FnMK (P : Program) (w : World) (K : PySem.W.Frag) (mg : Str → Option Value) (base : Heap) (T : List (Addr × Str)) (k : Nat) (C m : Str) (ps : List Str) (z : Shape) (W : DSp) : Prop :=
  ∃ f fd mv, FnG P w K mg base T k f fd ps W ∧ KBn K fd ps (z.n + 1) z.ks (fun us ws => us ++ pick z.cs mv ws) (fun vs zs => vs ++ pick z.cs (z.dm.map cvV) zs) ∧ Meth K (He.ga K C) m f ∧ Cls K (He.ga K C)
theorem FnMK.up {P : Program} {w : World} {K : PySem.W.Frag} {mg : Str → Option Value} {base : Heap} {T : List (Addr × Str)} {j k : Nat} {C m : Str} {ps : List Str} {z : Shape} {W : DSp} (F : FnMK P w K mg base T j C m ps z W) (h : j ≤ k) : FnMK P w K mg base T k C m ps z W := by
  obtain ⟨f, fd, mv, a, b⟩ := F
  exact ⟨f, fd, mv, a.up h, b⟩
section
variable {X : Cx} {k : Nat} {ps : List Str} {W : DSp} {E : DXS} {C m : Str} {p pos apos : Pos} {o e : Expr} {es : List Expr} {kws : List Keyword} {te : DTE} {t tk : DTA} {T : List (Addr × Str)} {z : Shape}
end
section
variable {σ : DSt} {h : MH} {Q : DK}
end
end DL

namespace DL
open PySem PySem.Spec PyProof.Rows L2
set_option autoImplicit true

section
variable {K : PySem.W.Frag} {H H2 : Hp} {h h2 : MH} {d : Addr} {o : Obj} {L : List QRow} {ps : List (List Int × PyData)}
end
theorem pv {X : Cx} {x : Str} {pos : Pos} (i : Nat) (hN : X.N[i]? = some x := by rfl) (hv : Vis X.env.scope x := by first | exact Or.inl rfl | exact Or.inr (Or.inl rfl) | exact Or.inr (Or.inr rfl)) (hd : (x == ("__debug__" : Str)) = false := by decide) (hcd : (x == ("__classdict__" : Str)) = false := by decide) : PE X (.Name x pos) (tVar i) := pe_var hN hv hd hcd
end DL

namespace DL
open PySem PySem.Spec PyProof.Rows L2
set_option autoImplicit true

def zipSO (f0 : Value) (TI TO : Addr) : Obj := { cls := .type "zip", dict := none, data := .fields #[f0, .bool false, .bool true, .ref TI, .ref TO], slots := #[] }
abbrev ZipS (h : Heap) (z TI TO : Addr) (f0 : Value) : Prop := h.get? z = some (zipSO f0 TI TO)
section
variable {prog : Program} {w : World} {A : Around} {E : Value → Shared → Prop} {s : Shared}
/-- what a strict zip of the lists a, b leans on: itself, its two iterators (in TI), its own pair -/
structure ZsAt (h : Heap) (z TI TO i1 i2 a b : Addr) (k : Nat) (f0 : Value) : Prop where
  zip : ZipS h z TI TO f0
  its : IsPair h TI (.ref i1) (.ref i2)
  out : ∃ x y, IsPair h TO x y
  one : h.IsListIter i1 a k
  two : h.IsListIter i2 b k
end

theorem ZsAt.up {g g' : Heap} {z TI TO i1 i2 a b : Addr} {n : Nat} {f0 : Value} (Z : ZsAt g z TI TO i1 i2 a b n f0) (k : ∀ c, c ∈ [z, TI, TO, i1, i2] → ∀ o, g.get? c = some o → g'.get? c = some o) : ZsAt g' z TI TO i1 i2 a b n f0 :=
  ⟨k _ (by simp) _ Z.zip, k _ (by simp) _ Z.its, Z.out.imp fun _ => Exists.imp fun _ => k _ (by simp) _, Z.one.at fun o => k _ (by simp) o, Z.two.at fun o => k _ (by simp) o⟩
section
variable {X : Cx} {a b : Expr} {p pos tpos kpos cp : Pos} {elts : List Expr} {kk ck : Nat} {ta tb : DTE}
end

end DL

namespace DL
open PySem PySem.Spec PyProof.Rows L2
set_option autoImplicit true

section
variable {X : Cx} {Γ : GI} {e : Expr} {es : List Expr} {te : DTE} {ts : List DTE} {pos : Pos}
inductive DJ (X : Cx) (Γ : GI) : List Expr → List DTE → Prop where
  | nil : DJ X Γ [] []
  | cons {e : Expr} {t : DTE} {es : List Expr} {ts : List DTE} (h : DE X Γ e t) (r : DJ X Γ es ts) : DJ X Γ (e :: es) (t :: ts)
def dJs : List DTE → Str → DSt → MH → (Str → MH → Prop) → Prop
  | [], acc, _, h, Q => Q acc h
  | t :: ts, acc, σ, h, Q => t σ h fun x h1 => match asStr x with
    | some y => (acc ++ y).length ≤ 16777216 ∧ dJs ts (acc ++ y) σ h1 Q
    | none => False
theorem DJ.mono (d : DJ X Γ es ts) : ∀ (acc : Str) (σ : DSt) (h : MH) (Q Q' : Str → MH → Prop), (∀ x h', Q x h' → Q' x h') → dJs ts acc σ h Q → dJs ts acc σ h Q' := by
  induction d with
  | nil => exact fun acc σ h Q Q' k w => k _ _ w
  | cons a _ ih =>
    intro acc σ h Q Q' k w
    refine a.mono _ _ _ _ (fun x h1 w1 => ?_) w
    split at w1
    · exact ⟨w1.1, ih _ _ _ _ _ k w1.2⟩
    · exact w1
end

section
variable {X : Cx} {Γ : GI} {k : Nat} {f : Addr} {fd : FuncData} {ps : List Str} {W : DSp} {C : Str}
end
section
variable {σ : DSt} {h : MH} {Q : DK} {te : DTE} {ts : List DTE}
end
end DL

namespace DL
open PySem PySem.Spec PyProof.Rows L2
set_option autoImplicit true

/-- what a zip of the tuple a and the list b leans on -/
structure ZmAt (h : Heap) (z TI TO i1 i2 a b : Addr) (k : Nat) (f0 : Value) : Prop where
  zip : IsZip h z TI TO f0
  its : IsPair h TI (.ref i1) (.ref i2)
  out : ∃ x y, IsPair h TO x y
  one : h.IsTupleIter i1 a k
  two : h.IsListIter i2 b k
theorem ZmAt.up {g g' : Heap} {z TI TO i1 i2 a b : Addr} {n : Nat} {f0 : Value} (Z : ZmAt g z TI TO i1 i2 a b n f0) (k : ∀ c, c ∈ [z, TI, TO, i1, i2] → ∀ o, g.get? c = some o → g'.get? c = some o) : ZmAt g' z TI TO i1 i2 a b n f0 :=
  ⟨k _ (by simp) _ Z.zip, k _ (by simp) _ Z.its, Z.out.imp fun _ => Exists.imp fun _ => k _ (by simp) _, Z.one.at fun o => k _ (by simp) o, Z.two.at fun o => k _ (by simp) o⟩
section
variable {prog : Program} {w : World} {A : Around} {E : Value → Shared → Prop} {s : Shared}
end
section
variable {X : Cx} {a b : Expr} {p pos tpos : Pos} {elts : List Expr} {kk : Nat} {ta tb : DTE}
end
end DL

namespace DL
open PySem PySem.Spec PyProof.Rows L2
set_option autoImplicit true

/-- a caught exception at a, at rest in the heap g: what is known while clauses are tried -/
structure Rest (X : Cx) (pins : List (Addr × Obj)) (a : Addr) (B : Heap) (sI : Shared) (σ' : L2.St) (H' : Hp) (cls : Value) (d : Option Addr) (s' : Shared) (g : Heap) : Prop where
  J : Inv X pins σ' H' sI
  nb : ∀ b o, sI.heap.get? b = some o → b ∉ frs X.stack → B.get? b = some o
  up : sI.heap.UpToSlots g
  fl : HandSPX.FlyingZ B (X.env :: X.outer) a (Zc cls d) g
  na : H' a = none
  os : s'.os = sI.os
  ag : AllBare s'.gens
section
variable {X : Cx} {pins : List (Addr × Obj)} {a : Addr} {B : Heap} {sI s' : Shared} {σ' : L2.St} {H' : Hp} {cls : Value} {d : Option Addr} {g : Heap}
theorem Rest.inv (R : Rest X pins a B sI σ' H' cls d s' g) : Inv X pins σ' H' { s' with heap := g } := R.J.landed (s' := { s' with heap := g }) R.nb R.fl.1 R.up R.os R.ag
theorem Rest.apart (R : Rest X pins a B sI σ' H' cls d s' g) (hf : X.env.frame = some X.env.locals) {oe : Obj} {vs : Array Value} (e : g.get? a = some oe) (ed : oe.data = .fields vs) : a ≠ X.env.locals ∧ a ∉ X.fs := by
  have no : a ∉ frs (X.env :: X.outer) := fun m => by
    obtain ⟨_, o2, e2, n2⟩ := R.fl.2.2.1.mem m
    rw [e] at e2
    cases e2
    exact n2 _ ed
  refine ⟨fun z => no (List.mem_filterMap.mpr ⟨X.env, List.mem_cons_self, by rw [hf, z]⟩), fun m => ?_⟩
  obtain ⟨v, hv, q⟩ := List.mem_filterMap.mp m
  exact no (List.mem_filterMap.mpr ⟨v, List.mem_cons_of_mem _ hv, q⟩)
/-- no clause takes it: on it goes -/
theorem Rest.on {Wout : WX} {D : Ends} (R : Rest X pins a B sI σ' H' cls d s' g) (hs : X.stack = X.env :: X.outer) (hf : X.env.frame = some X.env.locals) (tk : Takes X Wout) (w : Wout cls d σ' H') :
    wpAny (model X.prog X.w) X.A (handleBy (.ref a) X.env []) (SP X pins D) X.xe { s' with heap := g } := by
  apply wpAny_handleBy_nil
  obtain ⟨_, _, _, oe, vs, T, _, _, ea, _, ed, ev, _⟩ := id R.fl
  unfold PySem.passOn
  refine wpAny_bind (wpAny_field ea ed ev ?_)
  rw [if_neg (show ¬ ((Value.ref T == Value.none) = true) by simp)]
  have last : wpAny (model X.prog X.w) X.A (setFlight (.ref a) X.env.frame) (fun _ z => wpAny (model X.prog X.w) X.A (throw (.ref a) : Sem Flow) (SP X pins D) X.xe z) X.xe { s' with heap := g } := by
    rw [hf]
    apply HandSPX.setFlight_upZ (s := { s' with heap := g }) R.fl
    intro k held rise
    apply wpAny_throw
    exact tk _ _ ⟨a, B, sI, pins, σ', H', cls, d, rfl, R.J, R.nb, R.up.trans rise, .inr (.inr (by rw [hs]; exact held)), R.na, R.os, R.ag, w⟩
  first
    | exact wpAny_bind (wpAny_pure (wpAny_bind last))
    | exact wpAny_bind last
/-- its suite -/
theorem Rest.suite {D : Ends} {n : Str} {i : Nat} {b₀ : Stmt} {body : List Stmt} {pos' : Pos} {ts : TS} (R : Rest X pins a B sI σ' H' cls d s' g) (hf : X.env.frame = some X.env.locals) (hN : X.N.Nodup) (hi : X.N[i]? = some n) (hln : X.env.kindOf n = some .local)
    (run : ∀ (oe : Obj) (pn : List (Addr × Obj)), Zc cls d oe → (∃ vs, oe.data = .fields vs) → PSs (X.suite a ((a, oe) :: pn)) (b₀ :: body) ts)
    (w : ts { nx := fun σ2 H2 => D.nx (σ2.set i none) H2, rt := D.rt, bk := fun σ2 H2 => D.bk (σ2.set i none) H2, ct := fun σ2 H2 => D.ct (σ2.set i none) H2 } (σ'.set i (some (.ref a))) H') {rest : List ExceptHandler} {E : Expr} :
    ∀ {Q : Prop}, ((∀ (k : Heap), Rest X pins a B sI σ' H' cls d s' k → ∃ oe, (∃ vs, oe.data = .fields vs) ∧ Zc cls d oe ∧ Inv (X.suite a ((a, oe) :: (X.pn ++ pins))) [] σ' H' { s' with heap := k }) → Q) → Q := by
  intro Q k
  refine k fun g2 R2 => ?_
  obtain ⟨oe, vs, ea, hz, ed⟩ := R2.fl.there
  obtain ⟨n1, n2⟩ := R2.apart hf ea ed
  exact ⟨oe, ⟨vs, ed⟩, hz, R2.inv.suite ea ed R2.na n1 n2⟩
end
/-- what the clauses make of an exception -/
def wNamed (K : PySem.W.Frag) (Wout : WX) (D : Ends) : List (Value × Nat × (Addr → Value → Option Addr → TS)) → WX
  | [] => Wout
  | (c, i, ts) :: l => fun cls d σ H => ∃ b, PySem.W.exmOne K cls c = some b ∧
    (b = true → ∀ a, H a = none → ts a cls d { nx := fun σ2 H2 => D.nx (σ2.set i none) H2, rt := D.rt, bk := fun σ2 H2 => D.bk (σ2.set i none) H2, ct := fun σ2 H2 => D.ct (σ2.set i none) H2 } (σ.set i (some (.ref a))) H) ∧ (b = false → wNamed K Wout D l cls d σ H)
inductive HdsN (X : Cx) : List ExceptHandler → List (Value × Nat × (Addr → Value → Option Addr → TS)) → Prop
  | nil : HdsN X [] []
  | cons {x n : Str} {c : Value} {i : Nat} {b₀ : Stmt} {body : List Stmt} {np pos' : Pos} {ts : Addr → Value → Option Addr → TS} {hds : List ExceptHandler} {l : List (Value × Nat × (Addr → Value → Option Addr → TS))} (hc : Names X x c) (hi : X.N[i]? = some n) (hln : X.env.kindOf n = some .local)
      (run : ∀ (a : Addr) (oe : Obj) (cls : Value) (d : Option Addr) (pn : List (Addr × Obj)), Zc cls d oe → (∃ vs, oe.data = .fields vs) → PSs (X.suite a ((a, oe) :: pn)) (b₀ :: body) (ts a cls d)) (r : HdsN X hds l) : HdsN X (.ExceptHandler (some (.Name x np)) (some n) (b₀ :: body) pos' :: hds) ((c, i, ts) :: l)
section
variable {X : Cx} {pins : List (Addr × Obj)} {a : Addr} {B : Heap} {sI s' : Shared} {σ' : L2.St} {H' : Hp} {cls : Value} {d : Option Addr} {g : Heap}
theorem Rest.by_ {Wout : WX} {D : Ends} {hds : List ExceptHandler} {l : List (Value × Nat × (Addr → Value → Option Addr → TS))} (hs : X.stack = X.env :: X.outer) (hf : X.env.frame = some X.env.locals) (hN : X.N.Nodup) (tk : Takes X Wout) (ok : X.Ok) (hh : HdsN X hds l)
    (R : Rest X pins a B sI σ' H' cls d s' g) (w : wNamed X.K Wout D l cls d σ' H') : wpAny (model X.prog X.w) X.A (handleBy (.ref a) X.env hds) (SP X pins D) X.xe { s' with heap := g } := by
  induction hh with
  | nil => exact R.on hs hf tk w
  | @cons x n c i b₀ body np pos' ts hds l hc hi hln run r ih =>
    obtain ⟨b, ex, yes, no⟩ := w
    obtain ⟨oe, vs, ea, hz, ed⟩ := R.fl.there
    obtain ⟨n1, n2⟩ := R.apart hf ea ed
    have S := R.inv.suite ea ed R.na n1 n2
    apply wpAny_handleBy_cons (codeAny_handlers_test ?_) (by intro q; cases q)
    have name_ : ∀ {Q : Value → Shared → Prop} {E : Value → Shared → Prop}, Q c { s' with heap := g } → wpAny (model X.prog X.w) (X.A.mark (some (.ref a))) (eval (.Name x np) X.env) Q E { s' with heap := g } := by
      intro Q E q
      obtain ⟨gx, dx, mx | ⟨mx, vx, nx⟩⟩ := hc
      · exact ld_glob (X := X.suite a ((a, oe) :: (X.pn ++ pins))) S gx mx q dx
      · exact ld_blt (X := X.suite a ((a, oe) :: (X.pn ++ pins))) S gx mx vx q nx dx
    have lt : PySem.W.Looks (model X.prog X.w) g (typeOf (.ref a)) cls := fun A Q E s k q => wpAny_typeOf_ref (k a oe ea) (by rw [hz.1]; exact q)
    refine name_ ((PySem.W.exm_one (M := model X.prog X.w) R.inv.kIn lt ex).here ?_)
    cases b with
    | false => exact ih (no rfl)
    | true =>
      apply codeAny_handlers_suite_as
      apply HandSPX.lands_againZ (s := { s' with heap := g }) R.fl
      intro g2 fl2 up2
      have R2 : Rest X pins a B sI σ' H' cls d s' g2 := ⟨R.J, R.nb, R.up.trans up2, fl2, R.na, R.os, R.ag⟩
      obtain ⟨oe2, vs2, ea2, hz2, ed2⟩ := fl2.there
      obtain ⟨m1, m2⟩ := R2.apart hf ea2 ed2
      have S2 := R2.inv.suite ea2 ed2 R.na m1 m2
      have lc : Loc X.env.scope n := .inl hln
      apply store_ok (X := X.suite a ((a, oe2) :: (X.pn ++ pins))) (v := .ref a) S2 hN hi lc rfl (hf := .inr hln)
      intro s5 S5
      refine wpAny_mono ((run a oe2 cls d (X.pn ++ pins) hz2 ⟨vs2, ed2⟩).run [] s5 _ H' _ S5 (yes rfl a R.na)) (fun f s6 sp => ?_) fun _ _ z => z.elim
      have unbind : ∀ {σ6 : L2.St} {H6 : Hp} {Q : Shared → Prop}, Inv (X.suite a ((a, oe2) :: (X.pn ++ pins))) [] σ6 H6 s6 → (∀ s7, Inv X pins (σ6.set i none) H6 s7 → Q s7) → wpAny (model X.prog X.w) X.A (do bindName X.env n .none; unbindBehindTheSuite X.env n pos') (fun _ z => Q z) X.xe s6 :=
        fun S6 q => gone_ok (S6.unsuite ok) hN hi hln q
      match f, sp with
      | .next, ⟨_, _, S6, q⟩ => exact unbind S6 fun _ J => ⟨_, _, J, q⟩
      | .brk, ⟨_, _, S6, q⟩ => exact unbind S6 fun _ J => ⟨_, _, J, q⟩
      | .cont, ⟨_, _, S6, q⟩ => exact unbind S6 fun _ J => ⟨_, _, J, q⟩
      | .ret u, ⟨_, _, _, S6, rv, q⟩ => exact unbind S6 fun _ J => ⟨_, _, _, J, rv, q⟩
theorem ps_try_named {body : List Stmt} {h₀ : ExceptHandler} {hds : List ExceptHandler} {l : List (Value × Nat × (Addr → Value → Option Addr → TS))} {pos : Pos} {tb : WX → TS} {Wout : WX} (hs : X.stack = X.env :: X.outer) (hf : X.env.frame = some X.env.locals) (hN : X.N.Nodup) (tk : Takes X Wout)
    (hb : ∀ (W : WX) (pn : List (Addr × Obj)) (xe : Value → Shared → Prop), Takes (X.tr pn xe) W → PassesOwn (model X.prog X.w) X.A X.env xe → PSs (X.tr pn xe) body (tb W)) (hh : HdsN X (h₀ :: hds) l) :
    PS X (.Try body (h₀ :: hds) [] [] pos) (fun D σ H => tb (wNamed X.K Wout D l) D σ H) := by
  constructor
  intro pins s σ H D I w
  have ok := I.ok
  have fr : X.A.frames = some (X.env :: X.outer) := by rw [ok.frames, hs]
  apply wpAny_Try_except
  have inner := (hb (wNamed X.K Wout D l) (X.pn ++ pins) (fun e s1 => wpAny (model X.prog X.w) X.A (noteFrame e X.env) (fun _ s2 => wpAny (model X.prog X.w) X.A (setFlight e none) (fun _ s3 => wpAny (model X.prog X.w) X.A (handleBy e X.env (h₀ :: hds)) (SP X pins D) X.xe s3) X.xe s2) X.xe s1) ?_ PassesOwn.looking).run [] s σ H D (I.toTry _) w
  · refine wpAny_mono inner (fun f s1 sp => ?_) fun _ _ z => z
    match f, sp with
    | .next, ⟨_, _, J, q⟩ => exact wpAny_execs_nil ⟨_, _, J.ofTry ok, q⟩
    | .brk, ⟨_, _, J, q⟩ => exact ⟨_, _, J.ofTry ok, q⟩
    | .cont, ⟨_, _, J, q⟩ => exact ⟨_, _, J.ofTry ok, q⟩
    | .ret u, ⟨_, _, _, J, rv, q⟩ => exact ⟨_, _, _, J.ofTry ok, rv, q⟩
  · intro u z xx
    obtain ⟨a, B, sI, pins2, σ2, H2, cls, d, rfl, J, nb, up, sky, na, os, ag, ww⟩ := xx
    have J2 : Inv X pins σ2 H2 sI := J.ofTry ok
    have sky2 : Sky B (X.env :: X.outer) a (Zc cls d) X.env.locals z.heap := by rw [← hs]; exact sky
    show wpAny (model X.prog X.w) X.A (noteFrame (.ref a) X.env) _ _ z
    apply Sky.land Zc.steady fr hf sky2
    intro g fl up2
    exact Rest.by_ hs hf hN tk ok hh (s' := z) (g := g) ⟨J2, nb, up.trans up2, fl, na, os, ag⟩ ww
end
def dWas11 (kt : Str → Str → Option Bool) (n1 n2 : Str) (i1 i2 : Nat) (t1 t2 : Addr → DExc → DTS) (Eo : DXS) (D : DEnds) : DXS := fun y σ h => ∃ b, kt y.cls n1 = some b ∧ (b = true → ∀ a, h a = none → t1 a y (clrN i1 D) (σ.set i1 (some (.own a))) h) ∧
  (b = false → dWas kt n2 i2 t2 Eo D y σ h)
def dTry11 (kt : Str → Str → Option Bool) (n1 n2 : Str) (i1 i2 : Nat) (tb : DXS → DTS) (t1 t2 : Addr → DExc → DTS) (Eo : DXS) : DTS := fun D σ h =>
  ∃ (E0 : DXS) (D0 : DEnds), (∀ y σ' h', E0 y σ' h' → dWas11 kt n1 n2 i1 i2 t1 t2 Eo D y σ' h') ∧ DEnds.Le D0 D ∧ tb E0 D0 σ h
theorem try11_mk {kt : Str → Str → Option Bool} {n1 n2 : Str} {i1 i2 : Nat} {tb : DXS → DTS} {t1 t2 : Addr → DExc → DTS} {Eo : DXS} {D : DEnds} {σ : DSt} {h : MH} (w : tb (dWas11 kt n1 n2 i1 i2 t1 t2 Eo D) D σ h) : dTry11 kt n1 n2 i1 i2 tb t1 t2 Eo D σ h := ⟨_, _, fun _ _ _ z => z, le_refl, w⟩
section
variable {X : Cx} {x1 x2 m1 m2 : Str} {c1 c2 : Value} {body s1 s2 : List Stmt} {b1 b2 : Stmt} {np1 np2 pos p1 p2 : Pos} {kt : Str → Str → Option Bool} {tb : DXS → DTS} {t1 t2 : Addr → DExc → DTS} {Eo : DXS}
/-- a suite, told of an exception in the deep reading -/
theorem suite_lift {Γ Γ2 : GI} {i : Nat} {ts : Addr → DExc → DTS} (ms : ∀ a y, MonoS (ts a y)) {D : Ends} {H H' : Hp} {h h' : MH} {σ' : L2.St} {σd' : DSt} {y : DExc} {cls : Value} {d : Option Addr} {a : Addr} (e2 : Γ2 = Γ.at H h) (rs' : RSt X.K Γ2 H' h' σd' σ') (rm' : RM X.K Γ2 H' h') (rx : RX X.K Γ2 H' h' y cls d)
    (w : ts a y (clrN i (liftE X.K Γ H h D)) (σd'.set i (some (.own a))) h') :
    liftS X.K (Γ2.exc X.K y cls d) (ts a y) { nx := fun σ2 H2 => D.nx (σ2.set i none) H2, rt := D.rt, bk := fun σ2 H2 => D.bk (σ2.set i none) H2, ct := fun σ2 H2 => D.ct (σ2.set i none) H2 } (σ'.set i (some (.ref a))) H' := by
  subst e2
  refine ⟨σd'.set i (some (.own a)), h', ?_, ⟨rm'.ob, ⟨rm'.g, rx⟩, rm'.nx, rm'.tb⟩, ms _ _ _ _ _ _ ?_ w⟩
  · exact RSt.set (Γ := Γ) (x := .own a) (v := .ref a) rs' rfl
  · exact ⟨fun _ _ z _ H2 _ rs2 rm2 => z _ H2 rm2.g.1.2 (RSt.clr (Γ := Γ) rs2 none) rm2.unE.un, fun _ _ z v H2 _ rv2 rm2 => z v H2 rm2.g.1.2 rv2 rm2.unE.un, fun _ _ z _ H2 _ rs2 rm2 => z _ H2 rm2.g.1.2 (RSt.clr (Γ := Γ) rs2 none) rm2.unE.un, fun _ _ z _ H2 _ rs2 rm2 => z _ H2 rm2.g.1.2 (RSt.clr (Γ := Γ) rs2 none) rm2.unE.un⟩
theorem ds_try11 (i1 i2 : Nat) (hs : X.stack = X.env :: X.outer) (hf : X.env.frame = some X.env.locals) (hN : X.N.Nodup) (hc1 : Names X x1 c1) (hc2 : Names X x2 c2) (hk1 : ∀ c b, kt c x1 = some b → PySem.W.exmOne X.K (.ref (He.ga X.K c)) c1 = some b) (hk2 : ∀ c b, kt c x2 = some b → PySem.W.exmOne X.K (.ref (He.ga X.K c)) c2 = some b) (tk : Takes X (liftX X.K Γ Eo))
    (hb : ∀ (Γ1 : GI), Γ1.T = Γ.T → Γ1.x = Γ.x → (∀ H h, Γ1.G H h → Γ.G H h) → ∀ (Ed : DXS) (pn : List (Addr × Obj)) (xe : Value → Shared → Prop), Takes (X.tr pn xe) (liftX X.K Γ1 Ed) → PassesOwn (model X.prog X.w) X.A X.env xe → DSs (X.tr pn xe) Γ1 body (tb Ed))
    (hs1 : ∀ (Γ1 : GI), Γ1.T = Γ.T → ∀ (a : Addr) (oe : Obj) (y : DExc) (d : Option Addr) (pn : List (Addr × Obj)), Zc (.ref (He.ga X.K y.cls)) d oe → (∃ vs, oe.data = .fields vs) → DSs (X.suite a ((a, oe) :: pn)) (Γ1.exc X.K y (.ref (He.ga X.K y.cls)) d) (b1 :: s1) (t1 a y))
    (hs2 : ∀ (Γ1 : GI), Γ1.T = Γ.T → ∀ (a : Addr) (oe : Obj) (y : DExc) (d : Option Addr) (pn : List (Addr × Obj)), Zc (.ref (He.ga X.K y.cls)) d oe → (∃ vs, oe.data = .fields vs) → DSs (X.suite a ((a, oe) :: pn)) (Γ1.exc X.K y (.ref (He.ga X.K y.cls)) d) (b2 :: s2) (t2 a y))
    (h1 : X.N[i1]? = some m1 := by rfl) (l1 : X.env.kindOf m1 = some .local := by rfl) (h2 : X.N[i2]? = some m2 := by rfl) (l2 : X.env.kindOf m2 = some .local := by rfl) :
    DS X Γ (.Try body [.ExceptHandler (some (.Name x1 np1)) (some m1) (b1 :: s1) p1, .ExceptHandler (some (.Name x2 np2)) (some m2) (b2 :: s2) p2] [] [] pos) (dTry11 kt x1 x2 i1 i2 tb t1 t2 Eo) := by
  have mono1 : ∀ a y, MonoS (t1 a y) := fun a y => (hs1 Γ rfl a { cls := .ref (He.ga X.K y.cls), dict := none, data := .fields #[] } y none [] ⟨rfl, rfl⟩ ⟨_, rfl⟩).mono
  have mono2 : ∀ a y, MonoS (t2 a y) := fun a y => (hs2 Γ rfl a { cls := .ref (He.ga X.K y.cls), dict := none, data := .fields #[] } y none [] ⟨rfl, rfl⟩ ⟨_, rfl⟩).mono
  have clr : ∀ {i : Nat} {D D' : DEnds}, DEnds.Le D D' → DEnds.Le (clrN i D) (clrN i D') := fun l => ⟨fun _ _ z => l.nx _ _ z, l.rt, fun _ _ z => l.bk _ _ z, fun _ _ z => l.ct _ _ z⟩
  refine ⟨?_, ?_⟩
  · rintro D D' σ h l ⟨E0, D0, hE, hD, w⟩
    refine ⟨E0, D0, fun y σ' h' z => ?_, le_trans hD l, w⟩
    obtain ⟨b, e, p, q⟩ := hE y σ' h' z
    refine ⟨b, e, fun eb a na => mono1 _ _ _ _ _ _ (clr l) (p eb a na), fun eb => ?_⟩
    obtain ⟨b2, e2, p2, q2⟩ := q eb
    exact ⟨b2, e2, fun eb a na => mono2 _ _ _ _ _ _ (clr l) (p2 eb a na), q2⟩
  · let T1 : Addr → Value → Option Addr → TS := fun a cls d D σ H => ∃ (Γ1 : GI) (y : DExc), Γ1.T = Γ.T ∧ cls = .ref (He.ga X.K y.cls) ∧ liftS X.K (Γ1.exc X.K y cls d) (t1 a y) D σ H
    let T2 : Addr → Value → Option Addr → TS := fun a cls d D σ H => ∃ (Γ1 : GI) (y : DExc), Γ1.T = Γ.T ∧ cls = .ref (He.ga X.K y.cls) ∧ liftS X.K (Γ1.exc X.K y cls d) (t2 a y) D σ H
    let TB : WX → TS := fun W D σ H => ∃ (Γ1 : GI) (Ed : DXS) (D0 : DEnds) (σd : DSt) (h : MH), Γ1.T = Γ.T ∧ Γ1.x = Γ.x ∧ (∀ H h, Γ1.G H h → Γ.G H h) ∧ (∀ cls d σ' H', liftX X.K Γ1 Ed cls d σ' H' → W cls d σ' H') ∧ RSt X.K Γ1 H h σd σ ∧ RM X.K Γ1 H h ∧ DEnds.Le D0 (liftE X.K Γ1 H h D) ∧ tb Ed D0 σd h
    have hh : HdsN X [.ExceptHandler (some (.Name x1 np1)) (some m1) (b1 :: s1) p1, .ExceptHandler (some (.Name x2 np2)) (some m2) (b2 :: s2) p2] [(c1, i1, T1), (c2, i2, T2)] :=
      .cons hc1 h1 l1 (fun a oe cls d pn hz hfl => ⟨fun pins s σ H D I ⟨Γ1, y, hT, ec, w⟩ => by subst ec; exact (hs1 Γ1 hT a oe y d pn hz hfl).ps.run pins s σ H D I w⟩)
        (.cons hc2 h2 l2 (fun a oe cls d pn hz hfl => ⟨fun pins s σ H D I ⟨Γ1, y, hT, ec, w⟩ => by subst ec; exact (hs2 Γ1 hT a oe y d pn hz hfl).ps.run pins s σ H D I w⟩) .nil)
    refine ps_imp (ps_try_named (tb := TB) (Wout := liftX X.K Γ Eo) hs hf hN tk (fun W pn xe tk' ps => ?_) hh) fun D σ H ⟨σd, h, rs, rm, E0, D0, hE, hD, w⟩ => ?_
    · exact ⟨fun pins s σ H D I ⟨Γ1, Ed, D0, σd, h, hT, hx, hG, le, rs, rm, l, w⟩ => by
        have der := hb Γ1 hT hx hG Ed pn xe (tk'.imp le) ps
        exact der.ps.run pins s σ H D I ⟨σd, h, rs, rm, der.mono _ _ _ _ l w⟩⟩
    · refine ⟨Γ.at H h, E0, D0, σd, h, rfl, rfl, fun _ _ z => z.1, fun cls d σ' H' ⟨y, σd', h', rs', rm', rx, e⟩ => ?_, rs, rm.at, ?_, w⟩
      · obtain ⟨b, hb1, hyes, hno⟩ := hE _ _ _ e
        refine ⟨b, by rw [rx.1]; exact hk1 _ _ hb1, fun q a na => ⟨Γ.at H h, y, rfl, rx.1, suite_lift mono1 rfl rs' rm' rx (hyes q a (rm'.tracked na))⟩, fun q => ?_⟩
        obtain ⟨b2, hb2, hyes2, hno2⟩ := hno q
        exact ⟨b2, by rw [rx.1]; exact hk2 _ _ hb2, fun q a na => ⟨Γ.at H h, y, rfl, rx.1, suite_lift mono2 rfl rs' rm' rx (hyes2 q a (rm'.tracked na))⟩, fun q => ⟨y, σd', h', rs', rm'.un, rx, hno2 q⟩⟩
      · exact le_trans hD ⟨fun _ _ z σ2 H2 px rs2 rm2 => z σ2 H2 px rs2 rm2.un, fun _ _ z v H2 px rv2 rm2 => z v H2 px rv2 rm2.un, fun _ _ z σ2 H2 px rs2 rm2 => z σ2 H2 px rs2 rm2.un, fun _ _ z σ2 H2 px rs2 rm2 => z σ2 H2 px rs2 rm2.un⟩
end
end DL

namespace DL
open PySem PySem.Spec PyProof.Rows L2
set_option autoImplicit true

/-- what a lambda does: from a heap to an answer, or to an error -/
abbrev DLm := MH → DK → DXK → Prop
/-- a() in the def that got it, f being what stands in its slot -/
def dCallL (i : Nat) (f : Addr) (L : DLm) (Ed : DXS) : DTE := fun σ h Q => slot σ i = some (.own f) ∧ L h Q fun x h2 => Ed x σ h2
abbrev LSp := DLm → MH → DK → DXK → Prop
/-- the promise of a def that gets a lambda -/
def fnL (N : List Str) (a : Str) (t : Addr → DLm → DXS → DTS) : LSp := fun L h Q E => ∀ f, h f = none → fnW N [a] (t f L) [.own f] h Q E
/-- a() is understood wherever the def stands -/
def LAct (Z : Cx) (Γ : GI) (a : Str) (f : Addr) (L : DLm) : Prop := ∀ (pn : List (Addr × Obj)) (xe : Value → Shared → Prop) (Γ1 : GI) (Ed : DXS) (p1 p2 : Pos), Γ1.T = Γ.T → Γ1.x = Γ.x → (∀ H h, Γ1.G H h → Γ.G H h) → Takes (Z.tr pn xe) (liftX Z.K Γ1 Ed) →
  DE (Z.tr pn xe) Γ1 (.Call (.Name a p1) [] [] p2) (dCallL 0 f L Ed)
def lamLe (tb : DXS → DTE) (σd : DSt) : DLm := fun h Q E => tb (fun x _ h2 => E x h2) σd h Q
section
variable {P : Program} {w : World} {K : PySem.W.Frag} {mg : Str → Option Value} {base : Heap}
/-- a def run at one state -/
theorem run_l {T : List (Addr × Str)} {x qual : Str} {st : Stmt} {f : Addr} {fd : FuncData} {N ps : List Str} {k : Nat} {t : DXS → DTS} (F : Fun K x qual st f fd) (S : FnScope N ps (defScope st))
    {A : Around} {outer : List Env} {s : Shared} {H : Hp} {args : Args} {us : List Value} {vs : List V} {Q : VK} {E : XK} {xs : List Addr} {ds : List SV} {h : MH} (room : Room (k + 1) A) (env0 : Env0 P w K mg base A outer s H) (bind : BindsTo s fd args (ps.zip us)) (rel : Vals vs us)
    (rv : RVs K (G0 xs T) H h ds vs) (rm : RM K (G0 xs T) H h)
    (hw : fnW N ps t ds h (fun r h' => ∀ v H', PXx xs H h H' h' → RV K (G0 xs T) H' h' r v → RM K (G0 xs T) H' h' → Q v H') (fun x h' => ∀ cls d H', PXx xs H h H' h' → RX K (G0 xs T) H' h' x cls d → RM K (G0 xs T) H' h' → E cls d H'))
    (body : ∀ (cdv : Value) (Γ : GI) (Ed : DXS), fd.code = cdv → Γ.T = T → Γ.x = xs → (∀ H' h', Γ.G H' h' → PXx xs H h H' h') → Room k (A.deeper (envOfC qual (defScope st) s.heap.objs.size f cdv)) →
      Takes (cxOf (L2.CX P w) P w K mg base N qual (defScope st) f cdv A outer s H E) (liftX K Γ Ed) → DSs (cxOf (L2.CX P w) P w K mg base N qual (defScope st) f cdv A outer s H E) Γ (defBody st) (t Ed)) :
    codeAny (model P w) A (.call (.ref f) args) (CR (L2.CX P w) outer P w H s Q E) s := by
  obtain ⟨oc, od, kV, doc, pm, an, cdv, ct, osl, rfl, lk, hcd⟩ := F.ex
  obtain ⟨hlen, E0, D0, hE, hD, hw⟩ := hw
  have vlen : vs.length = ps.length := (rvs_len rv).trans hlen
  have keepB : ∀ b o, base.get? b = some o → s.heap.get? b = some o := fun b o z => (env0.bs b o z).1
  have inK := env0.mod.kin.keeps keepB
  have kinds : ∀ y ∈ ps.zip us, (defScope st).names.lookup y.1 = some .local ∨ ((defScope st).names.lookup y.1 = some .cell ∧ ((cellsFrom (s.heap.objs.size + 1) (defScope st).names []).lookup y.1).isSome = true) := by
    rintro ⟨n, u⟩ hy
    exact (S.par n (List.of_mem_zip hy).1).imp id fun q => ⟨q, PySem.W.cellsFrom_some _ _ _ (.inl q)⟩
  refine codeAny_call_function room.depth (inK _ _ lk) rfl S.co S.gen rfl (PySem.W.codeRec_of inK hcd) (bind _ _ _ _ (wpAny_newFunctionEnv_cells S.kind kinds fun env henv s1 made => ?_))
  subst henv
  refine ⟨(env0.mod.nolimit.keeps keepB).keeps made.toInCall.keep, codeAny_func ?_⟩
  have I := inv_start (CX := L2.CX P w) (E := E) S room.hd env0 vlen rel made
  let Γ : GI := ⟨xs, T, fun H' h' => PXx xs H h H' h', fun p q => q.trans p⟩
  have rmΓ : RM K Γ H h := ⟨rm.ob, PXx.refl, rm.nx, rm.tb⟩
  have tk : Takes (cxOf (L2.CX P w) P w K mg base N qual (defScope st) f cdv A outer s H E) (liftX K Γ E0) := (takes_of (X := cxOf (L2.CX P w) P w K mg base N qual (defScope st) f cdv A outer s H E) rfl rfl rfl rfl).imp fun cls d σ H' z => by
    obtain ⟨x, σd, h', _, rm', rx, e⟩ := z
    obtain ⟨h2, hs2, e2⟩ := hE _ _ _ e
    have dpx : PXx xs H' h' H' h2 := drop_px (Γ := Γ) hs2
    exact e2 cls d H' (rm'.g.trans dpx) (rx_up (Γ := G0 xs T) dpx rx) (drop_rm (Γ := Γ) hs2 rm').g0
  have out : ∀ (r : SV) (h' : MH) (v : V) (H' : Hp), (∃ h2, (∀ a o, h2 a = some o → h' a = some o) ∧ ∀ v H', PXx xs H h H' h2 → RV K (G0 xs T) H' h2 r v → RM K (G0 xs T) H' h2 → Q v H') → PX Γ H h H' h' → RV K Γ H' h' r v → RM K Γ H' h' → Q v H' := fun r h' v H' ⟨h2, hs2, z⟩ p rr rm' => by
    have dpx : PXx xs H' h' H' h2 := drop_px (Γ := Γ) hs2
    exact z v H' (PXx.trans p dpx) (RV.up (Γ := G0 xs T) dpx rr) (drop_rm (Γ := Γ) hs2 rm').g0
  have der := body cdv Γ E0 rfl rfl rfl (fun _ _ z => z) (room.deeper _) tk
  have go := der.ps.run [] s1 (L2.start N vs) H { nx := fun _ H' => Q .non H', rt := Q } I ⟨dstart N ds, h, rst_start (Γ := Γ) rv, rmΓ, der.mono _ _ _ _
    ⟨fun σd h' z σ H' p _ r => out (.d .none) h' .non H' (hD.nx σd h' z) p rv_non r, fun r h' z v H' p rr r' => out r h' v H' (hD.rt r h' z) p rr r', fun _ _ z => (hD.bk _ _ z).elim, fun _ _ z => (hD.ct _ _ z).elim⟩ hw⟩
  refine wpAny_mono go (fun fl s' hs => ?_) fun e s' hs => hs
  match fl, hs with
  | .ret u, ⟨v, σ', H', J, r, q⟩ => exact ⟨v, H', J.os, J.bare, J.base, J.hok, r, q⟩
  | .next, ⟨σ', H', J, q⟩ => exact ⟨.non, H', J.os, J.bare, J.base, J.hok, rfl, q⟩
  | .brk, ⟨_, _, _, q⟩ => exact q.elim
  | .cont, ⟨_, _, _, q⟩ => exact q.elim
end
section
variable {X : Cx} {pins : List (Addr × Obj)} {σ : L2.St} {H1 : Hp} {s1 : Shared} {h1 : MH} {σd : DSt}
/-- the def that got the lambda calls it -/
theorem act_l {Eg : XK} {Ng : List Str} {qg : Str} {sg : Scope} {g f c' : Addr} {cdg pm ctv : Value} {params : Arguments} {body : Expr} {scope : Scope} {k : Nat} {a : Str} {tb : DXS → DTE} (I : Inv X pins σ H1 s1) (L : LamX.LamS X.env.scope scope)
    (hf : s1.heap.get? f = some (PySem.W.kla_obj "<lambda>" (X.env.qual ++ "<lambda>") params body scope (cloFrom X.env.cells scope.names []) pm c' ctv)) (hfn : H1 f = none) (hfr : f ∉ frs X.stack) (hc : H1 c' = some (LamX.CodeO c' (X.env.qual ++ "<lambda>")))
    (hbind : bindArgs (PySem.W.kla_fn "<lambda>" (X.env.qual ++ "<lambda>") params body scope (cloFrom X.env.cells scope.names []) pm (.ref c') ctv) ⟨[], []⟩ = pure []) (gd : X.A.guards = some []) (hr : Room (k + 1) (X.A.deeper (envOfC qg sg s1.heap.objs.size g cdg)))
    (rs : RSt X.K Γ H1 h1 σd σ) (rm : RM X.K Γ H1 h1)
    (hbody : ∀ (A : Around) (outer : List Env) (s : Shared) (H : Hp) (E : XK) (pn : List (Addr × Obj)) (xe : Value → Shared → Prop) (Γ' : GI) (Ed : DXS), Γ'.T = Γ.T → Room k (A.deeper (LamX.lamEnv X scope s.heap.objs.size f c')) → A.guards = some [] →
      Takes ((LamX.lamCx X A outer s H E scope f c').tr pn xe) (liftX X.K Γ' Ed) → DE ((LamX.lamCx X A outer s H E scope f c').tr pn xe) Γ' body (tb Ed))
    {Γc : GI} (eT : Γc.T = Γ.T) (ex : Γc.x = Γ.x) (eG : ∀ H' h', Γc.G H' h' → PXx Γ.x H1 h1 H' h') (hN : Ng[0]? = some a) (hv : Vis sg a) (hd : (a == ("__debug__" : Str)) = false) (hcd : (a == ("__classdict__" : Str)) = false) :
    LAct (cxOf (L2.CX X.prog X.w) X.prog X.w X.K X.mg X.base Ng qg sg g cdg X.A X.stack s1 H1 Eg) Γc a f (lamLe tb σd) := by
  intro pn xe Γ1 Ed p1 p2 e1 e2 e3 tk
  have hc0 : h1 c' = none := by
    cases q : h1 c' with
    | none => rfl
    | some o =>
      obtain ⟨u, u1, u2⟩ := rm.isl q
      rw [hc] at u1
      cases u1
      exact absurd u2 not_plain_code
  have hcx : c' ∉ Γ.x := fun m => by
    obtain ⟨_, xs, z⟩ := rm.nx c' m
    rw [hc] at z
    unfold LamX.CodeO at z
    cases z
  have mono : ∀ E : DXS, Mono (tb E) := fun E => (hbody (X.A.deeper (envOfC qg sg s1.heap.objs.size g cdg)) [] s1 H1 (fun _ _ _ => True) [] (fun _ _ => True) Γ E rfl (hr.deeper _) gd (fun _ _ _ => trivial)).mono
  refine ⟨fun σz hz Q Q' kq w => ⟨w.1, mono _ _ _ _ _ kq w.2⟩, ⟨fun pinsZ sZ σZ HZ Q IZ hh => ?_⟩⟩
  obtain ⟨σz, hz, rsz, rmz, hslot, hw⟩ := hh
  obtain ⟨v0, es, ev0⟩ := rsz.2 0 _ (slot_get hslot)
  have ev0 : v0 = .ref f := ev0
  subst ev0
  have pxm : PXx Γ.x H1 h1 HZ hz := eG _ _ (e3 _ _ rmz.g)
  obtain ⟨hcZ, _⟩ := Fz.to (pxm.ex c' _ (Fz.of hc hc0 hcx (LamX.codeO_ne (c := c') (q := X.env.qual ++ "<lambda>"))))
  refine wpAny_Call_Name_kw (thn ((pe_var (pos := p1) (i := 0) hN hv hd hcd).run pinsZ sZ σZ HZ (fun v H2 => v = .ref f ∧ H2 = HZ) IZ ⟨.ref f, es, rfl, rfl⟩) fun u s2 ⟨v, H2, I2, r1, ev, eH⟩ => ?_)
  subst ev eH
  obtain rfl : u = Value.ref f := r1
  have fn2 : s2.heap.get? f = some (PySem.W.kla_obj "<lambda>" (X.env.qual ++ "<lambda>") params body scope (cloFrom X.env.cells scope.names []) pm c' ctv) := I2.base.keep f _ hf hfn hfr fun z => nomatch (show f ∈ ([] : List Addr) from z)
  refine PySem.W.callWith_F0 ⟨_, _, _, _, fn2⟩ ?_
  obtain ⟨⟨oc, cs, ct, hoc, hdc, hvc⟩, _, _⟩ := I2.hok c' _ hcZ
  let Ek : XK := fun cls d H' => liftX X.K Γ1 Ed cls d σZ H'
  have go : codeAny (model X.prog X.w) (X.A.deeper (envOfC qg sg s1.heap.objs.size g cdg)) (.call (.ref f) ⟨[], []⟩) (CR (L2.CX X.prog X.w) (envOfC qg sg s1.heap.objs.size g cdg :: X.stack) X.prog X.w H2 s2 Q Ek) s2 := by
    apply PySem.W.kla_callFunE hr.depth fn2 rfl L.co L.gen rfl ⟨c', oc, cs, ct, rfl, hoc, hdc, hvc⟩
    rw [hbind]
    apply wpAny_pure
    refine wpAny_newFunctionEnv (fun y hy => (L.own y hy).2) (fun y hy => absurd hy (by simp)) (fun h₁ hns hsb => ⟨I2.nolimit.fresh _ hsb, ?_⟩) L.kind
    have kp : ∀ b o, s2.heap.get? b = some o → h₁.get? b = some o := fun b o e => hsb.extBut b o (Nat.ne_of_lt (Heap.lt_size e)) (Heap.get?_push_of_some _ e)
    have J := LamX.lam_start2 (E := Ek) (f := f) (c' := c') (tk := s2.toks + ([] : List (Str × Value)).length) I L I2.env0 hr.hd I2.base hns kp
    let Γm : GI := ⟨Γ.x, Γ.T, fun H' h' => PXx Γ.x H2 hz H' h', fun p q => q.trans p⟩
    have rmM : RM X.K Γm H2 hz := by
      refine ⟨fun b o e => ?_, PXx.refl, fun b m => rmz.nx b (by rw [e2, ex]; exact m), by have := rmz.tb; rw [e1, eT] at this; exact this⟩
      have z := rmz.ob b o e
      unfold RO at z ⊢
      rw [show Fz Γ1 H2 hz = Fz Γm H2 hz from by show Fzx Γ1.x H2 hz = Fzx Γ.x H2 hz; rw [e2, ex]] at z
      exact z
    have rsM : RSt X.K Γm H2 hz σd σ := RSt.up (Γ := Γ) pxm rs
    have eF : ∀ H' h', Fz Γ1 H' h' = Fzx Γ.x H' h' := fun H' h' => by show Fzx Γ1.x H' h' = _; rw [e2, ex]
    have back : ∀ {H' : Hp} {h' : MH}, RM X.K Γm H' h' → PX Γ1 H2 hz H' h' ∧ RM X.K Γ1 H' h' := fun {H' h'} r => by
      have p : PX Γ1 H2 hz H' h' := by
        show PXx Γ1.x H2 hz H' h'
        rw [e2, ex]
        exact r.g
      refine ⟨p, fun b o e => ?_, Γ1.st p rmz.g, fun b m => r.nx b (by rw [e2, ex] at m; exact m), by rw [e1, eT]; exact r.tb⟩
      have z := r.ob b o e
      unfold RO at z ⊢
      rw [show Fz Γm H' h' = Fz Γ1 H' h' from (eF H' h').symm] at z
      exact z
    have rvB : ∀ {H' : Hp} {h' : MH} {x : SV} {v : V}, RV X.K Γm H' h' x v → RV X.K Γ1 H' h' x v := fun {H' h' x v} r => by
      cases x with
      | own b => exact r
      | d dd =>
        show Dp X.K (Fz Γ1 H' h') v dd
        rw [eF]
        exact r
    have tkM : Takes (LamX.lamCx X (X.A.deeper (envOfC qg sg s1.heap.objs.size g cdg)) (envOfC qg sg s1.heap.objs.size g cdg :: X.stack) s2 H2 Ek scope f c') (liftX X.K Γm fun x _ h2 => Ed x σz h2) :=
      (takes_of (X := LamX.lamCx X (X.A.deeper (envOfC qg sg s1.heap.objs.size g cdg)) (envOfC qg sg s1.heap.objs.size g cdg :: X.stack) s2 H2 Ek scope f c') rfl rfl rfl rfl).imp fun cls d σ' H' z => by
        obtain ⟨x, σ2, h', _, rm', rx, e⟩ := z
        obtain ⟨p, r⟩ := back rm'
        refine ⟨x, σz, h', rsz.up p, r, ?_, e⟩
        unfold RX at rx ⊢
        rw [show Fz Γm H' h' = Fz Γ1 H' h' from (eF H' h').symm] at rx
        exact rx
    have der := hbody (X.A.deeper (envOfC qg sg s1.heap.objs.size g cdg)) (envOfC qg sg s1.heap.objs.size g cdg :: X.stack) s2 H2 Ek [] (LamX.lamCx X (X.A.deeper (envOfC qg sg s1.heap.objs.size g cdg)) (envOfC qg sg s1.heap.objs.size g cdg :: X.stack) s2 H2 Ek scope f c').xe Γm (fun x _ h2 => Ed x σz h2) rfl (hr.deeper _) gd tkM
    have fin := der.pe.run [] _ σ H2 Q J ⟨σd, hz, rsM, rmM, der.mono _ _ _ _ (fun x h' q v H' p rr r => by
      obtain ⟨p', r'⟩ := back r
      exact q v H' p' (rvB rr) r') hw⟩
    show codeAny _ _ (.expr body (LamX.lamEnv X scope s2.heap.objs.size f c')) _ _
    refine PySem.W.kla_codeExpr (wpAny_mono fin (fun v s' ⟨v', H', J', rr, q⟩ => ⟨v', H', J'.os, J'.bare, J'.base, J'.hok, rr, q⟩) fun e s' hq => hq)
  refine wpAny_call (codeAny_mono go fun r s' hq => ?_)
  match r, hq with
  | .error e, hq => exact tk e s' (XE.of_call I2 (fun _ _ _ z => z) hq)
  | .ok (.ret u), hq => exact I2.after hq
  | .ok .next, hq => exact False.elim hq
  | .ok .brk, hq => exact False.elim hq
  | .ok .cont, hq => exact False.elim hq
end
/-- a def that gets a lambda, by its name -/
def FnL (P : Program) (w : World) (K : PySem.W.Frag) (mg : Str → Option Value) (base : Heap) (T : List (Addr × Str)) (k : Nat) (x a : Str) (N : List Str) (t : Addr → DLm → DXS → DTS) : Prop :=
  ∃ (g : Addr) (fd : FuncData) (st : Stmt), Fun K x x st g fd ∧ FnScope N [a] (defScope st) ∧ PySem.W.keepIn K (.ref g) = true ∧ Binds K fd [a] [] ∧ mg x = some (.ref g) ∧ N[0]? = some a ∧ Vis (defScope st) a ∧ (a == ("__debug__" : Str)) = false ∧ (a == ("__classdict__" : Str)) = false ∧
  ∀ (cdv : Value) (A : Around) (outer : List Env) (s : Shared) (H : Hp) (E' : XK) (Γ : GI) (Ed : DXS) (f : Addr) (L : DLm), fd.code = cdv → Γ.T = T → Room k (A.deeper (envOfC x (defScope st) s.heap.objs.size g cdv)) → A.guards = some [] →
    Takes (cxOf (L2.CX P w) P w K mg base N x (defScope st) g cdv A outer s H E') (liftX K Γ Ed) → LAct (cxOf (L2.CX P w) P w K mg base N x (defScope st) g cdv A outer s H E') Γ a f L → DSs (cxOf (L2.CX P w) P w K mg base N x (defScope st) g cdv A outer s H E') Γ (defBody st) (t f L Ed)
theorem FnL.up {P : Program} {w : World} {K : PySem.W.Frag} {mg : Str → Option Value} {base : Heap} {T : List (Addr × Str)} {j k : Nat} {x a : Str} {N : List Str} {t : Addr → DLm → DXS → DTS} (F : FnL P w K mg base T j x a N t) (h : j ≤ k) : FnL P w K mg base T k x a N t := by
  obtain ⟨g, fd, st, f1, f2, f3, f4, f5, f6, f7, f8, f9, f10⟩ := F
  exact ⟨g, fd, st, f1, f2, f3, f4, f5, f6, f7, f8, f9, fun cdv A outer s H E' Γ Ed f L e1 e2 hr => f10 cdv A outer s H E' Γ Ed f L e1 e2 (hr.mono h)⟩
def dLamC (W : LSp) (tb : DXS → DTE) (E : DXS) : DTE := fun σ h Q => W (lamLe tb σ) h Q fun x h2 => E x σ h2
theorem fnL_mono {N : List Str} {a : Str} {t : Addr → DLm → DXS → DTS} {L : DLm} {h : MH} {Q Q' : DK} {E E' : DXK} (k : ∀ x h, Q x h → Q' x h) (kx : ∀ x h, E x h → E' x h) (w : fnL N a t L h Q E) : fnL N a t L h Q' E' := fun f hf => fnW_mono _ _ _ _ _ _ k kx (w f hf)
theorem de_lamC {X : Cx} {T : List (Addr × Str)} {k kb : Nat} {x a : Str} {N : List Str} {t : Addr → DLm → DXS → DTS} {tb : DXS → DTE} {E : DXS} {params : Arguments} {body : Expr} {scope : Scope} {p lpos pos : Pos} (hΓ : Γ.T = T) (F : FnL X.prog X.w X.K X.mg X.base T k x a N t) (hT : TabOf X.base X.mg T X.env.code X.env.qual)
    (hr : Room (k + 1) X.A) (hk : kb + 1 ≤ k) (hg : X.A.guards = some []) (tk : Takes X (liftX X.K Γ E))
    (hbody : ∀ (A : Around) (outer : List Env) (s : Shared) (H : Hp) (E0 : XK) (f c' : Addr) (pn : List (Addr × Obj)) (xe : Value → Shared → Prop) (Γ' : GI) (Ed : DXS), Γ'.T = Γ.T → Room kb (A.deeper (LamX.lamEnv X scope s.heap.objs.size f c')) → A.guards = some [] →
      Takes ((LamX.lamCx X A outer s H E0 scope f c').tr pn xe) (liftX X.K Γ' Ed) → DE ((LamX.lamCx X A outer s H E0 scope f c').tr pn xe) Γ' body (tb Ed))
    (hL : LamX.lamSB X.env.scope scope = true := by rfl) (hdef : defaultsOf params X.env = ([], []) := by rfl)
    (hbind : ∀ (q : Str) (cl : List (Str × Addr)) (pm cv ctv : Value), bindArgs (PySem.W.kla_fn "<lambda>" q params body scope cl pm cv ctv) ⟨[], []⟩ = pure [] := by intros; rfl)
    (hgl : Gl X x := by rfl) (hdb : (x == ("__debug__" : Str)) = false := by decide) : DE X Γ (.Call (.Name x p) [.Lambda params body scope lpos] [] pos) (dLamC (fnL N a t) tb E) := by
  subst hΓ
  refine ⟨fun σ h Q Q' kq w => fnL_mono kq (fun _ _ z => z) w, ⟨fun pins s σ H Q I w => ?_⟩⟩
  obtain ⟨σd, h, rs, rm, w⟩ := w
  obtain ⟨g, fd, st, Fn, S, kp, bd, hm, hN, hv, hd, hcd, bodyL⟩ := F
  obtain ⟨c, Pt, hcode, TB, hmT, hu⟩ := hT
  have L := LamX.lamS_by hL
  refine wpAny_Call_Name_kw (ld_glob I hgl hm ?_ hdb)
  refine PySem.W.callWith_K (h₀ := X.base) I.ok.mod.kin kp ?_ (by rfl) (by rfl)
  show wpAny _ _ (spliced ((false, eval (.Lambda params body scope lpos) X.env) :: backTo pos (starEach [] X.env))) _ _ s
  refine Calls.spliced_cons (LamX.lam_make2 I TB hcode hmT hu rm.tb hdef (L.has I.ok) fun f c' pm' ctv H1 s' I1 eN T1 hf hfn hfr hco => ?_)
  refine Calls.spliced_nil ⟨I1.kIn, ?_⟩
  have px := extn_px (Γ := Γ) eN rm
  have rm1 := extn_rm eN T1 rm
  have rs1 := rs.up px
  have bi := bd s' [.ref f] I1.kIn rfl
  have go : codeAny (model X.prog X.w) X.A (.call (.ref g) ⟨[.ref f], []⟩) (CR (L2.CX X.prog X.w) X.stack X.prog X.w H1 s' Q fun cls d H' => liftX X.K Γ E cls d σ H') s' := by
    refine run_l (xs := Γ.x) (ds := [.own f]) (vs := [.ref f]) (us := [.ref f]) (h := h) Fn S hr I1.env0 bi (.cons rfl .nil) (.cons rfl .nil) rm1.g0 ?_ fun cdv Γc Ed ec eT ex eG hr' tk' =>
      bodyL cdv X.A X.stack s' H1 _ Γc Ed f (lamLe tb σd) ec eT hr' hg tk' (act_l I1 L hf hfn hfr hco (hbind _ _ _ _ _) hg (hr'.mono hk) rs1 rm1 (fun A outer s H E0 pn xe Γ' Ed e1 e2 e3 e4 => hbody A outer s H E0 f c' pn xe Γ' Ed e1 e2 e3 e4) eT ex eG hN hv hd hcd)
    refine fnW_mono _ _ _ _ _ _ (fun r h' q v H' p rr rmm => ?_) (fun x' h' q cls d H' p rx rmm => ?_) (w f (rm1.tracked hfn))
    · exact q v H' (px.trans p) rr (rm1.back p rmm)
    · exact ⟨x', σd, h', rs1.up p, rm1.back p rmm, rx, q⟩
  refine wpAny_call (codeAny_mono go fun r s2 hq => ?_)
  match r, hq with
  | .error e, hq => exact tk e s2 (XE.of_call I1 (fun _ _ _ z => z) hq)
  | .ok (.ret u), hq => exact I1.after hq
  | .ok .next, hq => exact False.elim hq
  | .ok .brk, hq => exact False.elim hq
  | .ok .cont, hq => exact False.elim hq
theorem e_callL {i : Nat} {f : Addr} {L : DLm} {Ed : DXS} {σ : DSt} {h : MH} {Q : DK} (e : slot σ i = some (.own f)) (k : L h Q fun x h2 => Ed x σ h2) : dCallL i f L Ed σ h Q := ⟨e, k⟩
theorem e_lamC {W : LSp} {tb : DXS → DTE} {E : DXS} {σ : DSt} {h : MH} {Q : DK} (k : W (lamLe tb σ) h Q fun x h2 => E x σ h2) : dLamC W tb E σ h Q := k
end DL

namespace DL
open PySem PySem.Spec PyProof.Rows L2
set_option autoImplicit true
/-- a clause's test answers whether the caught one is of its classes -/
def TestT (X : Cx) (tst : Expr) (ex : Value → Option Bool) : Prop := ∀ (a : Addr) (oe : Obj) (pn : List (Addr × Obj)) (σ : L2.St) (H : Hp) (s : Shared) (cls : Value) (b : Bool), Inv (X.suite a ((a, oe) :: pn)) [] σ H s → X.K.In s.heap →
  PySem.W.Looks (model X.prog X.w) s.heap (typeOf (.ref a)) cls → ex cls = some b → ∀ (A2 : Around) (Q : Bool → Shared → Prop) (E E2 : Value → Shared → Prop), (∀ h', (∀ q o, s.heap.get? q = some o → h'.get? q = some o) → Q b { s with heap := h' }) →
    wpAny (model X.prog X.w) (X.A.mark (some (.ref a))) (eval tst X.env) (fun c s1 => wpAny (model X.prog X.w) A2 (excMatches (.ref a) c) Q E2 s1) E s
section
variable {X : Cx} {tst : Expr} {ex : Value → Option Bool} {body suite : List Stmt} {b₀ : Stmt} {pos pos' : Pos} {tb : WX → TS} {ts : Addr → Value → Option Addr → TS} {Wout : WX}
end
/-- which of the classes: all known -/
def manyK (kt : Str → Str → Option Bool) (c : Str) : List Str → Option Bool
  | [] => some false
  | n :: r => match kt c n, manyK kt c r with
    | some a, some b => some (a || b)
    | _, _ => none
section
variable {X : Cx} {x1 x2 x3 x4 : Str} {c1 c2 c3 c4 : Value} {p1 p2 p3 p4 pt : Pos} {kt' : Nat}
end
section
variable {X : Cx} {tst : Expr} {cs : List Value} {ns : List Str} {body suite : List Stmt} {b₀ : Stmt} {pos pos' : Pos} {kt : Str → Str → Option Bool} {tb : DXS → DTS} {ts : Addr → DExc → DTS} {Eo : DXS}
end
end DL

namespace DL
open PySem PySem.Spec PyProof.Rows L2
set_option autoImplicit true
def wCls (Wout : WX) (D : Ends) : List Cls0 → WX
  | [] => Wout
  | c :: l => fun cls d σ H => ∃ b, c.ex cls = some b ∧ (b = true → ∀ a, H a = none → c.run D a cls d σ H) ∧ (b = false → wCls Wout D l cls d σ H)
def NmOk (X : Cx) (n : Option Str) (i : Option Nat) : Prop := match n, i with
  | some n, some i => X.N[i]? = some n ∧ X.env.kindOf n = some .local
  | none, none => True
  | _, _ => False
inductive HdsC (X : Cx) : List ExceptHandler → List Cls0 → Prop
  | nil : HdsC X [] []
  | cons {tst : Expr} {n : Option Str} {c : Cls0} {b₀ : Stmt} {body : List Stmt} {pos' : Pos} {hds : List ExceptHandler} {l : List Cls0} (ht : TestT X tst c.ex) (hn : NmOk X n c.nm)
      (run : ∀ (a : Addr) (oe : Obj) (cls : Value) (d : Option Addr) (pn : List (Addr × Obj)), Zc cls d oe → (∃ vs, oe.data = .fields vs) → PSs (X.suite a ((a, oe) :: pn)) (b₀ :: body) (c.ts a cls d)) (r : HdsC X hds l) : HdsC X (.ExceptHandler (some tst) n (b₀ :: body) pos' :: hds) (c :: l)
section
variable {X : Cx} {pins : List (Addr × Obj)} {a : Addr} {B : Heap} {sI s' : Shared} {σ' : L2.St} {H' : Hp} {cls : Value} {d : Option Addr} {g : Heap}
end
def dWasL (kt : Str → Str → Option Bool) (Eo : DXS) (D : DEnds) : List DCl → DXS
  | [] => Eo
  | c :: l => fun y σ h => ∃ b, manyK kt y.cls c.ns = some b ∧ (b = true → ∀ a, h a = none → c.run D a y σ h) ∧ (b = false → dWasL kt Eo D l y σ h)
section
variable {X : Cx} {Γ : GI} {kt : Str → Str → Option Bool} {tb : DXS → DTS} {Eo : DXS}
/-- clauses and their deep readings -/
inductive DHds (X : Cx) (Γ : GI) (kt : Str → Str → Option Bool) : List ExceptHandler → List DCl → Prop
  | nil : DHds X Γ kt [] []
  | cons {tst : Expr} {n : Option Str} {c : DCl} {ex : Value → Option Bool} {b₀ : Stmt} {body : List Stmt} {pos' : Pos} {hds : List ExceptHandler} {l : List DCl} (ht : TestT X tst ex) (hk : ∀ c1 b, manyK kt c1 c.ns = some b → ex (.ref (He.ga X.K c1)) = some b) (hn : NmOk X n c.nm)
      (run : ∀ (Γ1 : GI), Γ1.T = Γ.T → ∀ (a : Addr) (oe : Obj) (y : DExc) (d : Option Addr) (pn : List (Addr × Obj)), Zc (.ref (He.ga X.K y.cls)) d oe → (∃ vs, oe.data = .fields vs) → DSs (X.suite a ((a, oe) :: pn)) (Γ1.exc X.K y (.ref (He.ga X.K y.cls)) d) (b₀ :: body) (c.ts a y))
      (r : DHds X Γ kt hds l) : DHds X Γ kt (.ExceptHandler (some tst) n (b₀ :: body) pos' :: hds) (c :: l)
/-- a suite without a name, told of an exception in the deep reading -/
theorem suite_lift0 {Γ2 : GI} {ts : Addr → DExc → DTS} (ms : ∀ a y, MonoS (ts a y)) {D : Ends} {H H' : Hp} {h h' : MH} {σ' : L2.St} {σd' : DSt} {y : DExc} {cls : Value} {d : Option Addr} {a : Addr} (e2 : Γ2 = Γ.at H h) (rs' : RSt X.K Γ2 H' h' σd' σ') (rm' : RM X.K Γ2 H' h') (rx : RX X.K Γ2 H' h' y cls d)
    (w : ts a y (liftE X.K Γ H h D) σd' h') : liftS X.K (Γ2.exc X.K y cls d) (ts a y) D σ' H' := by
  subst e2
  refine ⟨σd', h', rs', ⟨rm'.ob, ⟨rm'.g, rx⟩, rm'.nx, rm'.tb⟩, ms _ _ _ _ _ _ ?_ w⟩
  exact ⟨fun _ _ z _ H2 _ rs2 rm2 => z _ H2 rm2.g.1.2 rs2 rm2.unE.un, fun _ _ z v H2 _ rv2 rm2 => z v H2 rm2.g.1.2 rv2 rm2.unE.un, fun _ _ z _ H2 _ rs2 rm2 => z _ H2 rm2.g.1.2 rs2 rm2.unE.un, fun _ _ z _ H2 _ rs2 rm2 => z _ H2 rm2.g.1.2 rs2 rm2.unE.un⟩
def clsUp (X : Cx) (Γ : GI) (c : DCl) (ex : Value → Option Bool) : Cls0 := ⟨ex, c.nm, fun a cls d D σ H => ∃ (Γ1 : GI) (y : DExc), Γ1.T = Γ.T ∧ cls = .ref (He.ga X.K y.cls) ∧ liftS X.K (Γ1.exc X.K y cls d) (c.ts a y) D σ H⟩
theorem DHds.up {hds : List ExceptHandler} {l : List DCl} (hh : DHds X Γ kt hds l) : ∃ l0 : List Cls0, HdsC X hds l0 ∧
    ∀ (D : Ends) (H : Hp) (h : MH) (y : DExc) (cls : Value) (d : Option Addr) (σ' : L2.St) (H' : Hp) (σd' : DSt) (h' : MH), RSt X.K (Γ.at H h) H' h' σd' σ' → RM X.K (Γ.at H h) H' h' → RX X.K (Γ.at H h) H' h' y cls d →
      dWasL kt Eo (liftE X.K Γ H h D) l y σd' h' → wCls (liftX X.K Γ Eo) D l0 cls d σ' H' := by
  induction hh with
  | nil => exact ⟨[], .nil, fun D H h y cls d σ' H' σd' h' rs rm rx w => ⟨y, σd', h', rs, rm.un, rx, w⟩⟩
  | @cons tst n c ex b₀ body pos' hds l ht hk hn run r ih =>
    obtain ⟨l0, a1, a2⟩ := ih
    refine ⟨clsUp X Γ c ex :: l0, .cons (c := clsUp X Γ c ex) ht hn (fun a oe cls d pn hz hfl => ⟨fun pins s σ H D I ⟨Γ1, y, hT, ec, w⟩ => by subst ec; exact (run Γ1 hT a oe y d pn hz hfl).ps.run pins s σ H D I w⟩) a1, ?_⟩
    intro D H h y cls d σ' H' σd' h' rs rm rx ⟨b, hb, yes, no⟩
    have mono : ∀ a y, MonoS (c.ts a y) := fun a y => (run Γ rfl a { cls := .ref (He.ga X.K y.cls), dict := none, data := .fields #[] } y none [] ⟨rfl, rfl⟩ ⟨_, rfl⟩).mono
    refine ⟨b, by rw [rx.1]; exact hk _ _ hb, fun q a na => ?_, fun q => a2 D H h y cls d σ' H' σd' h' rs rm rx (no q)⟩
    have w := yes q a (rm.tracked na)
    obtain ⟨cns, cnm, cts⟩ := c
    unfold DCl.run at w
    unfold Cls0.run
    cases cnm with
    | none => exact ⟨Γ.at H h, y, rfl, rx.1, suite_lift0 mono rfl rs rm rx w⟩
    | some i => exact ⟨Γ.at H h, y, rfl, rx.1, suite_lift mono rfl rs rm rx w⟩
end
section
variable {X : Cx} {x1 x2 x3 x4 x5 : Str} {c1 c2 c3 c4 c5 : Value} {p1 p2 p3 p4 p5 pt : Pos} {kt' : Nat}
end
end DL

namespace DL
open PySem PySem.Spec PyProof.Rows L2
set_option autoImplicit true

section
variable {P : Program} {w : World} {A : Around} {E : Value → Shared → Prop} {s s' : Shared} {h h' h0 : Heap} {S : Addr} {ks : List (Addr × List Int)} {i : Nat} {p : Addr × List Int}
end
theorem len_subF {α : Type} [DecidableEq α] : ∀ (l D : List α), l.Nodup → (∀ x ∈ l, x ∈ D) → l.length ≤ D.length
  | [], _, _, _ => Nat.zero_le _
  | x :: l, D, n, h => by
    have hx := h x List.mem_cons_self
    have n2 := List.nodup_cons.mp n
    have r := len_subF l (D.erase x) n2.2 fun y hy => (List.mem_erase_of_ne fun z => n2.1 (by rw [← z]; exact hy)).mpr (h y (List.mem_cons_of_mem _ hy))
    rw [List.length_erase_of_mem hx] at r
    have := List.length_pos_of_mem hx
    rw [List.length_cons]
    omega
section
variable {X : Cx} {a : Expr} {ta : TE}
end
section
variable {X : Cx} {Γ : GI} {a : Expr} {pos p2 : Pos}
end
end DL

namespace DL
open PySem PySem.Spec PyProof.Rows L2
set_option autoImplicit true

section
variable {prog : Program} {w : World} {A : Around} {E : Value → Shared → Prop} {s : Shared} {p q : Bool}
structure ZuAt (p q : Bool) (h : Heap) (z TI TO i1 i2 a b : Addr) (k : Nat) (f0 : Value) : Prop where
  zip : ZipS h z TI TO f0
  its : IsPair h TI (.ref i1) (.ref i2)
  out : ∃ x y, IsPair h TO x y
  one : isI p h i1 a k
  two : isI q h i2 b k
end

theorem ZuAt.up {p q : Bool} {g g' : Heap} {z TI TO i1 i2 a b : Addr} {n : Nat} {f0 : Value} (Z : ZuAt p q g z TI TO i1 i2 a b n f0) (k : ∀ c, c ∈ [z, TI, TO, i1, i2] → ∀ o, g.get? c = some o → g'.get? c = some o) : ZuAt p q g' z TI TO i1 i2 a b n f0 :=
  ⟨k _ (by simp) _ Z.zip, k _ (by simp) _ Z.its, Z.out.imp fun _ => Exists.imp fun _ => k _ (by simp) _, Z.one.at fun o => k _ (by simp) o, Z.two.at fun o => k _ (by simp) o⟩
section
variable {X : Cx} {a b : Expr} {p pos tpos kpos cp : Pos} {elts : List Expr} {kk ck : Nat} {ta tb : DTE}
end
section
variable {X : Cx} {a b c e : Expr} {p pos p2 tpos kpos cp : Pos} {kk ck : Nat} {ta tb tc te : DTE} {elts : List Expr}
end
section
variable {σ : DSt} {h : MH} {i1 i2 : Nat} {ta tb te : DTE} {tt : DTT} {vs : List Nat} {Q : DK} {QS : List SV → MH → Prop}
end
end DL

namespace DL
open PySem PySem.Spec PyProof.Rows L2
set_option autoImplicit true

section
variable {X : Cx}
theorem call_tupleP : CallR X (.type "tuple") (fun xs H Q => ∃ p ys, xs = [.ref p] ∧ SqL X.K H p ys ∧ ∀ l (o : Obj), H l = none → o.dict = none → Q (.ref l) (upd H l (.frz o (.tup ys)))) := by
  rintro pn s σ H _ us Q J r ⟨p, ys, rfl, hq, q⟩
  obtain ⟨_, rfl, rfl⟩ := vals1 r
  obtain ⟨its, rv, pl, hz⟩ := J.list hq
  have len := rv.length
  refine call_tuple_list pl.isList (fun h1 kp => ?_) (by rw [List.size_toArray]; omega)
  have J1 : Inv X pn σ H { s with heap := h1 } := J.kept kp
  obtain ⟨ob, eob⟩ : ∃ ob : Obj, ob = { cls := .type "tuple", data := .seq its.toArray } := ⟨_, rfl⟩
  have new : ObjOk X.prog X.w (upd H h1.objs.size (.frz ob (.tup ys))) (h1.push ob) h1.objs.size (.frz ob (.tup ys)) := by
    subst eob
    exact ⟨Heap.get?_push_size _ rfl, hz, its, rv, IsTup.new _ _⟩
  have no : ob.dict = none := by rw [eob]
  rw [← eob]
  exact ⟨.ref h1.objs.size, upd H h1.objs.size (.frz ob (.tup ys)), J1.laid (t' := s.toks) (fun _ _ z => Heap.get?_push_of_some _ z) (Nat.le_refl _) new, rfl, q _ ob (J1.hok.fresh (Nat.le_refl _)) no⟩
theorem prs_at {pn : List (Addr × Obj)} {σ : L2.St} {H : Hp} {s : Shared} (J : Inv X pn σ H s) : ∀ {ps : List Addr} {kvs : List (Key × V)}, Paired (fun p kv => SqT X.K H p [kV kv.1, kv.2]) ps kvs →
    ∃ (prs : List (Key × Value)) (pv : List (Value × Value)), KV kvs prs ∧ prs.length = ps.length ∧ pv.length = ps.length ∧ ∀ (j : Nat) (u y : Value), pv[j]? = some (u, y) → ∃ (b : Addr) (k : Key), ps[j]? = some b ∧ IsTup s.heap b #[u, y] ∧ prs[j]? = some (k, y) ∧ keyIs k u = true
  | _, _, .nil => ⟨[], [], .nil, rfl, rfl, fun j u y e => by simp at e⟩
  | _, _, .cons (a := p) (b := kv) hd tl => by
    obtain ⟨prs, pv, c1, c2, c3, c4⟩ := prs_at J tl
    obtain ⟨its, rv, tup, _⟩ := J.tuple hd
    obtain ⟨u, y, rfl, ru, ry⟩ := vals2 rv
    refine ⟨(kv.1, y) :: prs, (u, y) :: pv, .cons ⟨rfl, ry⟩ c1, congrArg (· + 1) c2, congrArg (· + 1) c3, fun j u' y' e => ?_⟩
    cases j with
    | zero =>
      have e := Option.some.inj e
      injection e with e1 e2
      subst e1 e2
      exact ⟨p, kv.1, rfl, tup, rfl, kV_is (P := X.prog) (w := X.w) ru⟩
    | succ j => exact c4 j u' y' e
theorem call_dictPT (hcalm : X.calm = true) : CallR X (.type "dict") (fun xs H Q => ∃ (a : Addr) (o : Obj) (ps : List Addr) (kvs : List (Key × V)), xs = [.ref a] ∧ H a = some (.frz o (.tup (ps.map V.ref))) ∧ o.dict = none ∧ Paired (fun p kv => SqT X.K H p [kV kv.1, kv.2]) ps kvs ∧
    ∀ p, H p = none → Q (.ref p) (upd H p (.dK (mergeK [] kvs)))) := by
  rintro pn s σ H _ us Q J r ⟨a, o, ps, kvs, rfl, ha, hd, hp, q⟩
  obtain ⟨_, rfl, rfl⟩ := vals1 r
  obtain ⟨eg, hz, its, rv, o2, eg2, ec, n, ed⟩ := J.hok a _ ha
  rw [eg] at eg2
  cases eg2
  have ei := refs_at rv
  subst ei
  rw [List.length_map] at hz
  obtain ⟨prs, pv, c1, c2, c3, c4⟩ := prs_at J hp
  have ok : PlainSeq "tuple" s.heap a (ps.map Value.ref).toArray ∧ PairItems s.heap (ps.map Value.ref).toArray (fun j => (ps[j]?).getD 0) pv := by
    refine ⟨⟨o, n, eg, ec, hd, ed⟩, by simp [c3], fun j u y e => ?_⟩
    obtain ⟨b, k, d1, d2, _, _⟩ := c4 j u y e
    dsimp only
    rw [d1]
    exact ⟨by simp [d1], .inl d2⟩
  refine PySem.call_dict_pairs (knd := mixKind X.prog X.w) (kvs := prs) (PairArg.tuple a _ _ pv) (J.ok.hd hcalm) ok ⟨by rw [c2, c3], fun j u y e => ?_⟩ (by rw [c3]; exact hz) fun h1 tk hd1 kp => ?_
  · obtain ⟨_, k, _, _, d3, d4⟩ := c4 j u y e
    exact ⟨k, d3, d4⟩
  · have far : (s.heap.objs.size == sysModules) = false := beq_eq_false_iff_ne.mpr (Nat.ne_of_gt J.big)
    have few : (mergeK [] kvs).length ≤ sizeLine := by
      have z1 := length_mergeK kvs []
      have z2 := c1.length
      rw [List.length_nil] at z1
      omega
    have new : ObjOk X.prog X.w (upd H s.heap.objs.size (.dK (mergeK [] kvs))) h1 s.heap.objs.size (.dK (mergeK [] kvs)) := ⟨few, far, merged [] prs, KV.merge c1 .nil, hd1⟩
    exact ⟨.ref s.heap.objs.size, upd H s.heap.objs.size (.dK (mergeK [] kvs)), J.laid (t' := tk) (fun b o z => kp b o (by simp) z) (Nat.le_refl _) new, rfl, q _ (J.hok.fresh (Nat.le_refl _))⟩
end
/-- tuple(a list), kept as one's own -/
def rdTupleP : DRA := fun xs h Q => match xs with
  | [x] => match asL h x with
    | some ds => ∀ p, h p = none → Q (.own p) (mput h p (.ptp ds))
    | none => False
  | _ => False
theorem la_tupleP {K : PySem.W.Frag} : LRA K Γ rdTupleP (fun xs H Q => ∃ p ys, xs = [.ref p] ∧ SqL K H p ys ∧ ∀ l (o : Obj), H l = none → o.dict = none → Q (.ref l) (upd H l (.frz o (.tup ys)))) := by
  refine ⟨fun xs h Q Q' k w => ?_, fun xs vs H h C Q r rm w k => ?_⟩
  · unfold rdTupleP at w ⊢
    split at w
    · split at w
      · exact fun p hp => k _ _ (w p hp)
      · exact w
    · exact w
  · unfold rdTupleP at w
    split at w
    · obtain ⟨v, rfl, rv⟩ := rvs1 r
      split at w
      · rename_i ds e1
        obtain ⟨a, vs, rfl, s1, d1⟩ := asL_ok rv rm e1
        refine ⟨a, vs, rfl, s1, fun p o hp ho => ?_⟩
        obtain ⟨x1, x2, x3⟩ := own_newG (o := .ptp ds) (u := .frz o (.tup vs)) hp rm ⟨ho, vs, rfl, d1⟩
        exact k (.own p) _ _ _ x1 (show RV K Γ _ _ (.own p) (.ref p) from rfl) x2 (w p x3)
      · exact w.elim
    · exact w.elim
def asPt (h : MH) : SV → Option (Addr × List PyData)
  | .own a => match h a with
    | some (.ptp xs) => some (a, xs)
    | _ => none
  | .d _ => none
theorem asPt_own (e : h a = some (.ptp xs)) : asPt h (.own a) = some (a, xs) := by simp only [asPt, e]
theorem asPt_ok {K : PySem.W.Frag} {Γ : GI} {H : Hp} {h : MH} {x : SV} {v : V} {p : Addr × List PyData} (rm : RM K Γ H h) (rv : RV K Γ H h x v) (e : asPt h x = some p) :
    v = .ref p.1 ∧ h p.1 = some (.ptp p.2) ∧ ∃ (o : Obj) (vs : List V), H p.1 = some (.frz o (.tup vs)) ∧ o.dict = none ∧ DpAll K (Fz Γ H h) vs p.2 := by
  cases x with
  | d _ => cases e
  | own b =>
    have e1 : h b = some (.ptp p.2) ∧ p.1 = b := by
      cases q : h b with
      | none => simp only [asPt, q] at e; cases e
      | some m => cases m <;> simp only [asPt, q] at e <;> cases e <;> exact ⟨rfl, rfl⟩
    obtain ⟨e1, e2⟩ := e1
    obtain ⟨u, f1, f2⟩ := ro_at (rm.ob _ _ e1)
    cases u <;> first | exact f2.elim | skip
    obtain ⟨no, vs, rfl, d1⟩ := f2
    rw [e2]
    exact ⟨rv, e1, _, vs, f1, no, d1⟩
/-- dict(such a tuple of pairs) -/
def rdDictOfP : DRA := fun xs h Q => match xs with
  | [x] => match asPt h x with
    | some p => match pairsD p.2 with
      | some kvs => ∀ p, h p = none → Q (.own p) (mput h p (.dct (mergeS [] kvs)))
      | none => False
    | none => False
  | _ => False
theorem la_dictOfP {K : PySem.W.Frag} : LRA K Γ rdDictOfP (fun xs H Q => ∃ (a : Addr) (o : Obj) (ps : List Addr) (kvs : List (Key × V)), xs = [.ref a] ∧ H a = some (.frz o (.tup (ps.map V.ref))) ∧ o.dict = none ∧ Paired (fun p kv => SqT K H p [kV kv.1, kv.2]) ps kvs ∧
    ∀ p, H p = none → Q (.ref p) (upd H p (.dK (mergeK [] kvs)))) := by
  refine ⟨fun xs h Q Q' k w => ?_, fun xs vs H h C Q r rm w k => ?_⟩
  · unfold rdDictOfP at w ⊢
    split at w
    · split at w
      · split at w
        · exact fun p hp => k _ _ (w p hp)
        · exact w
      · exact w
    · exact w
  · unfold rdDictOfP at w
    split at w
    · obtain ⟨v, rfl, rv⟩ := rvs1 r
      split at w
      · rename_i pr e1
        obtain ⟨rfl, _, o, vs, g1, g2, d1⟩ := asPt_ok rm rv e1
        split at w
        · rename_i kvs e2
          obtain ⟨ps, ks, q1, q2, q3⟩ := pairsD_ok d1 e2
          subst q1
          refine ⟨pr.1, o, ps, ks, rfl, g1, g2, paired_imp (fun _ _ => sqT_up fz_sub) q2, fun p hp => ?_⟩
          obtain ⟨x1, x2, x3⟩ := own_newG (o := .dct (mergeS [] kvs)) (u := .dK (mergeK [] ks)) hp rm (show Paired _ _ _ from mergeS_ok q3 .nil)
          exact k (.own p) _ _ _ x1 (show RV K Γ _ _ (.own p) (.ref p) from rfl) x2 (w p x3)
        · exact w.elim
      · exact w.elim
    · exact w.elim
/-- such a tuple read as data, kept as one's own, too -/
def asPK (Q : DK) : DK := fun x h1 => match asPt h1 x with
  | some p => Q (.d (.tuple p.2)) h1
  | none => Q x h1
def dAsP (te : DTE) : DTE := fun σ h Q => te σ h (asPK Q)
theorem de_asP {X : Cx} {e : Expr} {te : DTE} (he : DE X Γ e te) : DE X Γ e (dAsP te) :=
  ⟨fun σ h Q Q' k w => he.mono _ _ _ _ (fun x h1 w1 => by
    unfold asPK at w1 ⊢
    split at w1
    · exact k _ _ w1
    · exact k _ _ w1) w, pe_imp he.pe fun σ H Q ⟨σd, h, rs, rm, w⟩ => ⟨σd, h, rs, rm, he.mono _ _ _ _ (fun x h1 w1 v H1 px rv rm1 => by
    unfold asPK at w1
    split at w1
    · rename_i p e1
      obtain ⟨rfl, g0, o, vs, g1, g2, d1⟩ := asPt_ok rm1 rv e1
      exact w1 _ _ px (Dp.tup (.inl (.inr ⟨o, Fz.ofH g1 (by rw [g0]; rfl) (rm1.ownx g0)⟩)) d1) rm1
    · exact w1 _ _ px rv rm1) w⟩⟩
section
variable {σ : DSt} {h : MH} {Q : DK} {te : DTE} {a : Addr}
theorem b_tupleP (k : ∀ p, h p = none → Q (.own p) (mput h p (.ptp xs))) : rdTupleP [.d (.list xs)] h Q := k
theorem b_dictOfP {kvs : List (Key × SV)} (e1 : h a = some (.ptp ds)) (e : pairsD ds = some kvs) (k : ∀ p, h p = none → Q (.own p) (mput h p (.dct (mergeS [] kvs)))) : rdDictOfP [.own a] h Q := by
  unfold rdDictOfP
  simp only [asPt_own e1, e]
  exact k
theorem e_asP (k : te σ h (asPK Q)) : dAsP te σ h Q := k
theorem k_asP (e : h a = some (.ptp xs)) (k : Q (.d (.tuple xs)) h) : asPK Q (.own a) h := by
  unfold asPK
  rw [asPt_own e]
  exact k
end
end DL

namespace DL.G
open PySem PySem.Spec PyProof.Rows L2
set_option autoImplicit true

/-! ### is_number -/
theorem sc_is_number : FnScope ["thing"] ["thing"] (defScope s_is_number) := ⟨rfl, rfl, rfl, by decide +kernel, rfl, by decide +kernel, by decide +kernel⟩
def t_is_number : DTS := (dRet (dAndV (dIsT (dVar 0) "int") (dNotV (dIsT (dVar 0) "bool"))))
def W_is_number : DSp := fnW ["thing"] ["thing"] fun _ => t_is_number
theorem f_is_number {P : Program} {w : World} {K : PySem.W.Frag} {mg : Str → Option Value} {base : Heap} {T : List (Addr × Str)} {k : Nat} {f : Addr} {fd : FuncData} (F : Fun K "is_number" "is_number" s_is_number f fd) (g_isinstance : mg "isinstance" = none) (g_int : mg "int" = none) (g_bool : mg "bool" = none) :
    FnG P w K mg base T (k + 1) f fd ["thing"] W_is_number := by
  have c_ := sc_is_number
  refine fn_g (k := k) F sc_is_number fun cdv A outer s H E' Γ Ed hcd hΓ hr hg tk => ?_
  have r1_ := room1 hr
  have r64_ := room64 hr
  have r65_ := room65 hr
  exact (dss_one (ds_ret (de_and (de_isT (n := "int") (dv 0) (by rfl) g_isinstance (by rfl) g_int (by decide +kernel)) (de_one (de_not (de_isT (n := "bool") (dv 0) (by rfl) g_isinstance (by rfl) g_bool (by decide +kernel)))))))
/-! ### need -/
theorem sc_need : FnScope ["truth", "word", "at"] ["truth", "word", "at"] (defScope s_need) := ⟨rfl, rfl, rfl, by decide +kernel, rfl, by decide +kernel, by decide +kernel⟩
def t_need (E : DXS) : DTS := (dIfS (dNot (dTest (dVar 0))) (dRaise2 E "NoPaper" "word" "at" (dCons (dVar 1) (dCons (dVar 2) dNil))) dNext)
def W_need : DSp := fnW ["truth", "word", "at"] ["truth", "word", "at"] t_need
theorem f_need {P : Program} {w : World} {K : PySem.W.Frag} {mg : Str → Option Value} {base : Heap} {T : List (Addr × Str)} {k : Nat} {f : Addr} {fd : FuncData} (F : Fun K "need" "need" s_need f fd) (e_NoPaper : Err2 K mg "NoPaper" "word" "at") :
    FnG P w K mg base T (k + 1) f fd ["truth", "word", "at"] W_need := by
  have c_ := sc_need
  refine fn_g (k := k) F sc_need fun cdv A outer s H E' Γ Ed hcd hΓ hr hg tk => ?_
  have r1_ := room1 hr
  have r64_ := room64 hr
  have r65_ := room65 hr
  exact (dss_one (ds_if (dt_not (dt_val (dv 0))) (dss_one (ds_raiseE2 (by rfl) e_NoPaper (by decide) hr tk (da_cons (dv 1) (da_cons (dv 2) da_nil)))) dss_nil))
/-! ### lets_ring -/
theorem sc_lets_ring : FnScope ["waits", "thing", "k", "one"] ["waits", "thing"] (defScope s_lets_ring) := ⟨rfl, rfl, rfl, by decide +kernel, rfl, by decide +kernel, by decide +kernel⟩
def t_lets_ring (E : DXS) : DTS := (dSeq (dDrop (dCall E W_need (dCons (dAndV (dIsT (dVar 1) "tuple") (dAndV (dOp rdGt (dB rdLen (dCons (dVar 1) dNil)) (dC (.int 0))) (dB rdAll (dCons (dL (fLc (wSeq (dVar 1)) (.nm 3) dYes (dCall noX W_is_number (dCons (dVar 3) dNil)) [3])) dNil)))) (dCons (dC (.str "shape")) (dCons (dNeg (dC (.int 1))) dNil)))))
  (dSeq (dFor (wEnum (dVar 1)) (.tup [2, 3]) (dDrop (dCall E W_need (dCons (dOp (rdInT true) (dVar 3) (dSl (dVar 1) dNoPart (dPart (dVar 2)))) (dCons (dC (.str "twice")) (dCons (dVar 2) dNil))))))
  (dSeq (dFor (wEnum (dVar 1)) (.tup [2, 3]) (dDrop (dCall E W_need (dCons (dOp (rdInT false) (dTup (dCons (dVar 3) (dCons (dOp rdIx (dVar 1) (dOp rdMod (dOp rdAdd (dVar 2) (dC (.int 1))) (dB rdLen (dCons (dVar 1) dNil)))) dNil))) (dVar 0)) (dCons (dC (.str "waits")) (dCons (dVar 2) dNil))))))
  (dRet (dB rdLen (dCons (dVar 1) dNil))))))
def W_lets_ring : DSp := fnW ["waits", "thing", "k", "one"] ["waits", "thing"] t_lets_ring
theorem f_lets_ring {P : Program} {w : World} {K : PySem.W.Frag} {mg : Str → Option Value} {base : Heap} {T : List (Addr × Str)} {k : Nat} {f : Addr} {fd : FuncData} (F : Fun K "lets_ring" "lets_ring" s_lets_ring f fd) (c_need : FnC P w K mg base T k "need" ["truth", "word", "at"] W_need) (c_is_number : FnC P w K mg base T k "is_number" ["thing"] W_is_number) (g_len : mg "len" = none) (g_enumerate : mg "enumerate" = none) (g_isinstance : mg "isinstance" = none) (g_tuple : mg "tuple" = none) (g_all : mg "all" = none) :
    FnG P w K mg base T (k + 1) f fd ["waits", "thing"] W_lets_ring := by
  have c_ := sc_lets_ring
  refine fn_g (k := k) F sc_lets_ring fun cdv A outer s H E' Γ Ed hcd hΓ hr hg tk => ?_
  have r1_ := room1 hr
  have r64_ := room64 hr
  have r65_ := room65 hr
  exact (dss_cons (ds_expr (de_fn hΓ c_need hr hg tk (da_cons (de_and (de_isT (n := "tuple") (dv 1) (by rfl) g_isinstance (by rfl) g_tuple (by decide +kernel)) (de_and (de_cmp (op_gtG r1_) lr_gt (de_callB cr_len la_len (by rfl) g_len (by decide +kernel) (da_cons (dv 1) da_nil)) de_int) (de_one (de_callB (cr_all (by rfl)) la_all (by rfl) g_all (by decide +kernel) (da_cons (DF.toDE (df_lc (by rfl) c_.nd (dw_seq (dv 1)) (own := [("one", 3)]) (show BlkOk ["waits", "thing", "k", "one"] (defScope s_lets_ring) _ _ from blkOk_by (by decide +kernel)) (fun _ _ _ _ _ => (dg_nm 3 c_.nd)) (by decide) (fun Γ' hΓ1 _ _ _ _ _ => have hΓ := hΓ1.trans hΓ; dts_nil) (fun Γ' hΓ1 _ _ _ _ _ => have hΓ := hΓ1.trans hΓ; (de_fn hΓ c_is_number hr hg takes_no (da_cons (dv 3) da_nil))))) da_nil))))) (da_cons de_str (da_cons (de_neg de_int) da_nil)))))
    (dss_cons (ds_for (passes_of rfl) (by rfl) (dw_enum (by rfl) g_enumerate (dv 1)) (dg_tup (by rfl) (dgs_cons (dg_nm 2 c_.nd) (dgs_cons (dg_nm 3 c_.nd) dgs_nil))) (dss_one (ds_expr (de_fn hΓ c_need hr hg tk (da_cons (de_cmp (op_notInT r65_) lr_inT (dv 3) (de_sl (dv 1) do_none (do_some (dv 2)))) (da_cons de_str (da_cons (dv 2) da_nil)))))))
    (dss_cons (ds_for (passes_of rfl) (by rfl) (dw_enum (by rfl) g_enumerate (dv 1)) (dg_tup (by rfl) (dgs_cons (dg_nm 2 c_.nd) (dgs_cons (dg_nm 3 c_.nd) dgs_nil))) (dss_one (ds_expr (de_fn hΓ c_need hr hg tk (da_cons (de_cmp (op_inT r65_) lr_inT (de_tup (da_cons (dv 3) (da_cons (de_ix r1_ (dv 1) (de_bin op_modN lr_mod (de_bin op_addAll lr_add (dv 2) de_int) (de_callB cr_len la_len (by rfl) g_len (by decide +kernel) (da_cons (dv 1) da_nil)))) da_nil))) (dv 0)) (da_cons de_str (da_cons (dv 2) da_nil)))))))
    (dss_one (ds_ret (de_callB cr_len la_len (by rfl) g_len (by decide +kernel) (da_cons (dv 1) da_nil)))))))
/-! ### led_from -/
theorem sc_led_from : FnScope ["known", "number", "found", "here"] ["known", "number"] (defScope s_led_from) := ⟨rfl, rfl, rfl, by decide +kernel, rfl, by decide +kernel, by decide +kernel⟩
def t_led_from : DTS := (dSeq (dAsg (dOwn (fLst dNil)) (.nm 2))
  (dSeq (dAsg (dVar 1) (.nm 3))
  (dSeq (dWhile (dAnd (dTest (dOp rdNotN (dVar 3) (dC .none))) (dTest (dOp rdNotInL (dVar 3) (dVar 2)))) (dSeq (dDrop (dML rdAppend (dVar 2) (dCons (dVar 3) dNil)))
  (dAsg (dDGet1 (dVar 0) (dVar 3)) (.nm 3))))
  (dRet (dTup (dCons (dVar 2) (dCons (dVar 3) dNil)))))))
def W_led_from : DSp := fnW ["known", "number", "found", "here"] ["known", "number"] fun _ => t_led_from
theorem f_led_from {P : Program} {w : World} {K : PySem.W.Frag} {mg : Str → Option Value} {base : Heap} {T : List (Addr × Str)} {k : Nat} {f : Addr} {fd : FuncData} (F : Fun K "led_from" "led_from" s_led_from f fd) :
    FnG P w K mg base T (k + 1) f fd ["known", "number"] W_led_from := by
  have c_ := sc_led_from
  refine fn_g (k := k) F sc_led_from fun cdv A outer s H E' Γ Ed hcd hΓ hr hg tk => ?_
  have r1_ := room1 hr
  have r64_ := room64 hr
  have r65_ := room65 hr
  exact (dss_cons (ds_set 2 c_.nd (DF.toOwn (df_lst da_nil)))
    (dss_cons (ds_set 3 c_.nd (dv 1))
    (dss_cons (ds_while (passes_of rfl) (DW.dt (dw_and (dt_cmp op_notN lr_notN (dv 3) de_non) (dw_and1 (dt_cmp (op_notInG r65_) lr_notInL (dv 3) (dv 2))))) (dss_cons (ds_expr (de_mL PySem.F.plainAttrs_list PySem.F.slot_list_append PySem.F.type_list_append mt_append lm_append (dv 2) (da_cons (dv 3) da_nil)))
    (dss_one (ds_set 3 c_.nd (de_dget1 r1_ (dv 0) (dv 3) m1_of)))))
    (dss_one (ds_ret (de_tup (da_cons (dv 2) (da_cons (dv 3) da_nil))))))))
/-! ### ring_from -/
theorem sc_ring_from : FnScope ["waits", "number", "found", "last"] ["waits", "number"] (defScope s_ring_from) := ⟨rfl, rfl, rfl, by decide +kernel, rfl, by decide +kernel, by decide +kernel⟩
def t_ring_from : DTS := (dSeq (dAsg (dCall noX W_led_from (dCons (dB rdDictOfP (dCons (dVar 0) dNil)) (dCons (dVar 1) dNil))) (.tup [2, 3]))
  (dRet (dIf (dTest (dOp rdEq (dVar 3) (dVar 1))) (dB rdTuple (dCons (dVar 2) dNil)) (dC .none))))
def W_ring_from : DSp := fnW ["waits", "number", "found", "last"] ["waits", "number"] fun _ => t_ring_from
theorem f_ring_from {P : Program} {w : World} {K : PySem.W.Frag} {mg : Str → Option Value} {base : Heap} {T : List (Addr × Str)} {k : Nat} {f : Addr} {fd : FuncData} (F : Fun K "ring_from" "ring_from" s_ring_from f fd) (c_led_from : FnC P w K mg base T k "led_from" ["known", "number"] W_led_from) (g_tuple : mg "tuple" = none) (g_dict : mg "dict" = none) :
    FnG P w K mg base T (k + 1) f fd ["waits", "number"] W_ring_from := by
  have c_ := sc_ring_from
  refine fn_g (k := k) F sc_ring_from fun cdv A outer s H E' Γ Ed hcd hΓ hr hg tk => ?_
  have r1_ := room1 hr
  have r64_ := room64 hr
  have r65_ := room65 hr
  exact (dss_cons (ds_asg (de_fn hΓ c_led_from hr hg takes_no (da_cons (de_callTy (call_dictPT (by rfl)) la_dictOfP (by rfl) g_dict (by decide +kernel) (da_cons (dv 0) da_nil)) (da_cons (dv 1) da_nil))) (dg_tup (by rfl) (dgs_cons (dg_nm 2 c_.nd) (dgs_cons (dg_nm 3 c_.nd) dgs_nil))))
    (dss_one (ds_ret (de_ifExp (dt_cmp (op_eqA r64_) lr_eq (dv 3) (dv 1)) (de_callTy call_tuple_of la_tuple (by rfl) g_tuple (by decide +kernel) (da_cons (dv 2) da_nil)) de_non))))
/-! ### _law_tape -/
theorem sc__law_tape : FnScope ["_law_script"] ["_law_script"] (defScope s__law_tape) := ⟨rfl, rfl, rfl, by decide +kernel, rfl, by decide +kernel, by decide +kernel⟩
def t__law_tape : DTS := (dRet (dOwn (fLst (dCons (dSl (dVar 0) dNoPart (dPart (dC (.int 63)))) (dCons (dC (.int 0)) (dCons (dC (.int 0)) (dCons (dC (.int 0)) dNil)))))))
def W__law_tape : DSp := fnW ["_law_script"] ["_law_script"] fun _ => t__law_tape
theorem f__law_tape {P : Program} {w : World} {K : PySem.W.Frag} {mg : Str → Option Value} {base : Heap} {T : List (Addr × Str)} {k : Nat} {f : Addr} {fd : FuncData} (F : Fun K "_law_tape" "_law_tape" s__law_tape f fd) :
    FnG P w K mg base T (k + 1) f fd ["_law_script"] W__law_tape := by
  have c_ := sc__law_tape
  refine fn_g (k := k) F sc__law_tape fun cdv A outer s H E' Γ Ed hcd hΓ hr hg tk => ?_
  have r1_ := room1 hr
  have r64_ := room64 hr
  have r65_ := room65 hr
  exact (dss_one (ds_ret (DF.toOwn (df_lst (da_cons (de_sl (dv 0) do_none (do_some de_int)) (da_cons de_int (da_cons de_int (da_cons de_int da_nil))))))))
/-! ### _law_draw -/
theorem sc__law_draw : FnScope ["_law_tape_here", "_law_many", "_law_turn", "_law_at", "_law_cell", "_law_mixed", "_law_digit"] ["_law_tape_here", "_law_many"] (defScope s__law_draw) := ⟨rfl, rfl, rfl, by decide +kernel, rfl, by decide +kernel, by decide +kernel⟩
def t__law_draw : DTS := (dSeq (dAsg (dOp rdAdd (dOp rdIx (dVar 0) (dC (.int 3))) (dC (.int 1))) (.nm 2))
  (dSeq (dSetIx (dVar 2) (dVar 0) (dC (.int 3)))
  (dSeq (dIfS (dTest (dOp rdGt (dOp rdIx (dVar 0) (dC (.int 2))) (dC (.int 0)))) (dSeq (dAsg (dOp rdMod (dOp rdIx (dVar 0) (dC (.int 2))) (dVar 1)) (.nm 6))
  (dSeq (dSetIx (dOp rdDiv (dOp rdIx (dVar 0) (dC (.int 2))) (dVar 1)) (dVar 0) (dC (.int 2)))
  (dRet (dVar 6)))) dNext)
  (dSeq (dAsg (dOp rdIx (dVar 0) (dC (.int 1))) (.nm 3))
  (dSeq (dSetIx (dOp rdAdd (dVar 3) (dC (.int 1))) (dVar 0) (dC (.int 1)))
  (dSeq (dAsg (dIf (dTest (dOp rdNe (dOp rdIx (dVar 0) (dC (.int 0))) (dL (fLst dNil)))) (dOp rdIx (dOp rdIx (dVar 0) (dC (.int 0))) (dOp rdMod (dVar 3) (dB rdLen (dCons (dOp rdIx (dVar 0) (dC (.int 0))) dNil)))) (dC (.int 9))) (.nm 4))
  (dSeq (dIfS (dAnd (dTest (dOp rdGe (dVar 4) (dOp rdPow (dC (.int 10)) (dC (.int 18))))) (dTest (dOp rdLt (dVar 3) (dB rdLen (dCons (dOp rdIx (dVar 0) (dC (.int 0))) dNil))))) (dSeq (dSetIx (dOp rdDiv (dVar 4) (dVar 1)) (dVar 0) (dC (.int 2)))
  (dRet (dOp rdMod (dVar 4) (dVar 1)))) dNext)
  (dSeq (dAsg (dOp rdMod (dOp rdPow (dOp rdAdd (dOp rdAdd (dOp rdMod (dVar 4) (dC (.int 1000081))) (dOp rdMul (dC (.int 5189)) (dVar 2))) (dC (.int 47))) (dC (.int 5))) (dC (.int 2147483647))) (.nm 5))
  (dRet (dOp rdMod (dOp rdDiv (dOp rdMod (dOp rdPow (dOp rdAdd (dVar 5) (dOp rdMul (dC (.int 80021)) (dVar 2))) (dC (.int 5))) (dC (.int 2147483587))) (dC (.int 64))) (dVar 1)))))))))))
def W__law_draw : DSp := fnW ["_law_tape_here", "_law_many", "_law_turn", "_law_at", "_law_cell", "_law_mixed", "_law_digit"] ["_law_tape_here", "_law_many"] fun _ => t__law_draw
theorem f__law_draw {P : Program} {w : World} {K : PySem.W.Frag} {mg : Str → Option Value} {base : Heap} {T : List (Addr × Str)} {k : Nat} {f : Addr} {fd : FuncData} (F : Fun K "_law_draw" "_law_draw" s__law_draw f fd) (g_len : mg "len" = none) :
    FnG P w K mg base T (k + 1) f fd ["_law_tape_here", "_law_many"] W__law_draw := by
  have c_ := sc__law_draw
  refine fn_g (k := k) F sc__law_draw fun cdv A outer s H E' Γ Ed hcd hΓ hr hg tk => ?_
  have r1_ := room1 hr
  have r64_ := room64 hr
  have r65_ := room65 hr
  exact (dss_cons (ds_set 2 c_.nd (de_bin op_addAll lr_add (de_ix r1_ (dv 0) de_int) de_int))
    (dss_cons (ds_setIx r1_ (dv 2) (dv 0) de_int)
    (dss_cons (ds_if (dt_cmp (op_gtG r1_) lr_gt (de_ix r1_ (dv 0) de_int) de_int) (dss_cons (ds_set 6 c_.nd (de_bin op_modN lr_mod (de_ix r1_ (dv 0) de_int) (dv 1)))
    (dss_cons (ds_setIx r1_ (de_bin op_fdivN lr_div (de_ix r1_ (dv 0) de_int) (dv 1)) (dv 0) de_int)
    (dss_one (ds_ret (dv 6))))) dss_nil)
    (dss_cons (ds_set 3 c_.nd (de_ix r1_ (dv 0) de_int))
    (dss_cons (ds_setIx r1_ (de_bin op_addAll lr_add (dv 3) de_int) (dv 0) de_int)
    (dss_cons (ds_set 4 c_.nd (de_ifExp (dt_cmp (op_neA r64_) lr_ne (de_ix r1_ (dv 0) de_int) (DF.toDE (df_lst da_nil))) (de_ix r1_ (de_ix r1_ (dv 0) de_int) (de_bin op_modN lr_mod (dv 3) (de_callB cr_len la_len (by rfl) g_len (by decide +kernel) (da_cons (de_ix r1_ (dv 0) de_int) da_nil)))) de_int))
    (dss_cons (ds_if (DW.dt (dw_and (dt_cmp (op_geG r1_) lr_ge (dv 4) (de_bin op_pow lr_pow de_int de_int)) (dw_and1 (dt_cmp (op_ltG r1_) lr_lt (dv 3) (de_callB cr_len la_len (by rfl) g_len (by decide +kernel) (da_cons (de_ix r1_ (dv 0) de_int) da_nil)))))) (dss_cons (ds_setIx r1_ (de_bin op_fdivN lr_div (dv 4) (dv 1)) (dv 0) de_int)
    (dss_one (ds_ret (de_bin op_modN lr_mod (dv 4) (dv 1))))) dss_nil)
    (dss_cons (ds_set 5 c_.nd (de_bin op_modN lr_mod (de_bin op_pow lr_pow (de_bin op_addAll lr_add (de_bin op_addAll lr_add (de_bin op_modN lr_mod (dv 4) de_int) (de_bin op_mulAll lr_mul de_int (dv 2))) de_int) de_int) de_int))
    (dss_one (ds_ret (de_bin op_modN lr_mod (de_bin op_fdivN lr_div (de_bin op_modN lr_mod (de_bin op_pow lr_pow (de_bin op_addAll lr_add (dv 5) (de_bin op_mulAll lr_mul de_int (dv 2))) de_int) de_int) de_int) (dv 1))))))))))))
/-! ### _law_bent -/
theorem sc__law_bent : FnScope ["_law_tape_here", "_law_thing", "_law_menu", "_law_way", "_law_odd", "_law_at", "_law_some"] ["_law_tape_here", "_law_thing", "_law_menu"] (defScope s__law_bent) := ⟨rfl, rfl, rfl, by decide +kernel, rfl, by decide +kernel, by decide +kernel⟩
def t__law_bent (Wx : DSp) : DTS := (dSeq (dIfS (dAnd (dTest (dIsT (dVar 1) "tuple")) (dAnd (dTest (dOp rdNe (dVar 1) (dTup dNil))) (dTest (dOp rdGt (dCall noX W__law_draw (dCons (dVar 0) (dCons (dC (.int 3)) dNil))) (dC (.int 0)))))) (dSeq (dAsg (dCall noX W__law_draw (dCons (dVar 0) (dCons (dB rdLen (dCons (dVar 1) dNil)) dNil))) (.nm 5))
  (dRet (dOp rdAdd (dOp rdAdd (dSl (dVar 1) dNoPart (dPart (dVar 5))) (dTup (dCons (dCall noX Wx (dCons (dVar 0) (dCons (dOp rdIx (dVar 1) (dVar 5)) (dCons (dVar 2) dNil)))) dNil))) (dSl (dVar 1) (dPart (dOp rdAdd (dVar 5) (dC (.int 1)))) dNoPart)))) dNext)
  (dSeq (dAsg (dCall noX W__law_draw (dCons (dVar 0) (dCons (dC (.int 9)) dNil))) (.nm 3))
  (dSeq (dAsg (dOp rdIx (dVar 2) (dCall noX W__law_draw (dCons (dVar 0) (dCons (dB rdLen (dCons (dVar 2) dNil)) dNil)))) (.nm 4))
  (dSeq (dIfS (dAnd (dTest (dIsT (dVar 1) "tuple")) (dTest (dOp rdLt (dVar 3) (dC (.int 6))))) (dSeq (dAsg (dCall noX W__law_draw (dCons (dVar 0) (dCons (dOp rdAdd (dB rdLen (dCons (dVar 1) dNil)) (dC (.int 1))) dNil))) (.nm 5))
  (dSeq (dAsg (dL (fLst (dCons (dOp rdAdd (dSl (dVar 1) dNoPart (dPart (dVar 5))) (dSl (dVar 1) (dPart (dOp rdAdd (dVar 5) (dC (.int 1)))) dNoPart)) (dCons (dOp rdAdd (dSl (dVar 1) dNoPart (dPart (dOp rdAdd (dVar 5) (dC (.int 1))))) (dSl (dVar 1) (dPart (dVar 5)) dNoPart)) (dCons (dOp rdAdd (dSl (dVar 1) (dPart (dVar 5)) dNoPart) (dSl (dVar 1) dNoPart (dPart (dVar 5)))) dNil))))) (.nm 6))
  (dSeq (dAsg (dOp rdAdd (dVar 6) (dL (fLst (dCons (dL (fB rfList (dCons (dVar 1) dNil))) (dCons (dOp rdAdd (dOp rdAdd (dSl (dVar 1) dNoPart (dPart (dVar 5))) (dTup (dCons (dVar 4) dNil))) (dSl (dVar 1) (dPart (dVar 5)) dNoPart)) (dCons (dTup dNil) dNil)))))) (.nm 6))
  (dRet (dOp rdIx (dVar 6) (dVar 3)))))) dNext)
  (dSeq (dIfS (dAnd (dTest (dIsT (dVar 1) "int")) (dAnd (dNot (dTest (dIsT (dVar 1) "bool"))) (dTest (dOp rdLt (dVar 3) (dC (.int 7)))))) (dRet (dOp rdIx (dL (fLst (dCons (dOp rdAdd (dVar 1) (dC (.int 1))) (dCons (dOp rdSub (dVar 1) (dC (.int 1))) (dCons (dC (.int 0)) (dCons (dOp rdSub (dC (.int 0)) (dVar 1)) (dCons (dOp rdEq (dVar 1) (dC (.int 1))) (dCons (dOp rdMul (dVar 1) (dC (.int 2))) (dCons (dB rdStrI (dCons (dVar 1) dNil)) dNil))))))))) (dVar 3))) dNext)
  (dRet (dVar 4)))))))
def R__law_bent : Nat → DSp
  | 0 => fun _ _ _ _ => False
  | n + 1 => fnW ["_law_tape_here", "_law_thing", "_law_menu", "_law_way", "_law_odd", "_law_at", "_law_some"] ["_law_tape_here", "_law_thing", "_law_menu"] fun E => t__law_bent (R__law_bent n)
def W__law_bent : DSp := R__law_bent 12
theorem f__law_bent {Wx : DSp} {P : Program} {w : World} {K : PySem.W.Frag} {mg : Str → Option Value} {base : Heap} {T : List (Addr × Str)} {k : Nat} {f : Addr} {fd : FuncData} (F : Fun K "_law_bent" "_law_bent" s__law_bent f fd) (c__law_draw : FnC P w K mg base T k "_law_draw" ["_law_tape_here", "_law_many"] W__law_draw) (c__law_bent : FnC P w K mg base T k "_law_bent" ["_law_tape_here", "_law_thing", "_law_menu"] Wx) (g_isinstance : mg "isinstance" = none) (g_int : mg "int" = none) (g_bool : mg "bool" = none) (g_str : mg "str" = none) (g_tuple : mg "tuple" = none) (g_list : mg "list" = none) (g_len : mg "len" = none) :
    FnG P w K mg base T (k + 1) f fd ["_law_tape_here", "_law_thing", "_law_menu"] (fnW ["_law_tape_here", "_law_thing", "_law_menu", "_law_way", "_law_odd", "_law_at", "_law_some"] ["_law_tape_here", "_law_thing", "_law_menu"] fun E => t__law_bent Wx) := by
  have c_ := sc__law_bent
  refine fn_g (k := k) F sc__law_bent fun cdv A outer s H E' Γ Ed hcd hΓ hr hg tk => ?_
  have r1_ := room1 hr
  have r64_ := room64 hr
  have r65_ := room65 hr
  exact (dss_cons (ds_if (DW.dt (dw_and (dt_val (de_isT (n := "tuple") (dv 1) (by rfl) g_isinstance (by rfl) g_tuple (by decide +kernel))) (dw_and (dt_cmp (op_neA r64_) lr_ne (dv 1) (de_tup da_nil)) (dw_and1 (dt_cmp (op_gtG r1_) lr_gt (de_fn hΓ c__law_draw hr hg takes_no (da_cons (dv 0) (da_cons de_int da_nil))) de_int))))) (dss_cons (ds_set 5 c_.nd (de_fn hΓ c__law_draw hr hg takes_no (da_cons (dv 0) (da_cons (de_callB cr_len la_len (by rfl) g_len (by decide +kernel) (da_cons (dv 1) da_nil)) da_nil))))
    (dss_one (ds_ret (de_bin op_addAll lr_add (de_bin op_addAll lr_add (de_sl (dv 1) do_none (do_some (dv 5))) (de_tup (da_cons (de_fn hΓ c__law_bent hr hg takes_no (da_cons (dv 0) (da_cons (de_ix r1_ (dv 1) (dv 5)) (da_cons (dv 2) da_nil)))) da_nil))) (de_sl (dv 1) (do_some (de_bin op_addAll lr_add (dv 5) de_int)) do_none))))) dss_nil)
    (dss_cons (ds_set 3 c_.nd (de_fn hΓ c__law_draw hr hg takes_no (da_cons (dv 0) (da_cons de_int da_nil))))
    (dss_cons (ds_set 4 c_.nd (de_ix r1_ (dv 2) (de_fn hΓ c__law_draw hr hg takes_no (da_cons (dv 0) (da_cons (de_callB cr_len la_len (by rfl) g_len (by decide +kernel) (da_cons (dv 2) da_nil)) da_nil)))))
    (dss_cons (ds_if (DW.dt (dw_and (dt_val (de_isT (n := "tuple") (dv 1) (by rfl) g_isinstance (by rfl) g_tuple (by decide +kernel))) (dw_and1 (dt_cmp (op_ltG r1_) lr_lt (dv 3) de_int)))) (dss_cons (ds_set 5 c_.nd (de_fn hΓ c__law_draw hr hg takes_no (da_cons (dv 0) (da_cons (de_bin op_addAll lr_add (de_callB cr_len la_len (by rfl) g_len (by decide +kernel) (da_cons (dv 1) da_nil)) de_int) da_nil))))
    (dss_cons (ds_set 6 c_.nd (DF.toDE (df_lst (da_cons (de_bin op_addAll lr_add (de_sl (dv 1) do_none (do_some (dv 5))) (de_sl (dv 1) (do_some (de_bin op_addAll lr_add (dv 5) de_int)) do_none)) (da_cons (de_bin op_addAll lr_add (de_sl (dv 1) do_none (do_some (de_bin op_addAll lr_add (dv 5) de_int))) (de_sl (dv 1) (do_some (dv 5)) do_none)) (da_cons (de_bin op_addAll lr_add (de_sl (dv 1) (do_some (dv 5)) do_none) (de_sl (dv 1) do_none (do_some (dv 5)))) da_nil))))))
    (dss_cons (ds_set 6 c_.nd (de_bin op_addAll lr_add (dv 6) (DF.toDE (df_lst (da_cons (DF.toDE (df_callTy call_list_of lf_list (by rfl) g_list (by decide +kernel) (da_cons (dv 1) da_nil))) (da_cons (de_bin op_addAll lr_add (de_bin op_addAll lr_add (de_sl (dv 1) do_none (do_some (dv 5))) (de_tup (da_cons (dv 4) da_nil))) (de_sl (dv 1) (do_some (dv 5)) do_none)) (da_cons (de_tup da_nil) da_nil)))))))
    (dss_one (ds_ret (de_ix r1_ (dv 6) (dv 3))))))) dss_nil)
    (dss_cons (ds_if (DW.dt (dw_and (dt_val (de_isT (n := "int") (dv 1) (by rfl) g_isinstance (by rfl) g_int (by decide +kernel))) (dw_and (dt_not (dt_val (de_isT (n := "bool") (dv 1) (by rfl) g_isinstance (by rfl) g_bool (by decide +kernel)))) (dw_and1 (dt_cmp (op_ltG r1_) lr_lt (dv 3) de_int))))) (dss_one (ds_ret (de_ix r1_ (DF.toDE (df_lst (da_cons (de_bin op_addAll lr_add (dv 1) de_int) (da_cons (de_bin op_sub lr_sub (dv 1) de_int) (da_cons de_int (da_cons (de_bin op_sub lr_sub de_int (dv 1)) (da_cons (de_cmp (op_eqA r64_) lr_eq (dv 1) de_int) (da_cons (de_bin op_mulAll lr_mul (dv 1) de_int) (da_cons (de_callTy call_str_int la_strI (by rfl) g_str (by decide +kernel) (da_cons (dv 1) da_nil)) da_nil))))))))) (dv 3)))) dss_nil)
    (dss_one (ds_ret (dv 4))))))))
/-! ### _law_refused -/
theorem sc__law_refused : FnScope ["_law_ask", "_law_found", "e", "_law_sorts"] ["_law_ask"] (defScope s__law_refused) := ⟨rfl, rfl, rfl, by decide +kernel, rfl, by decide +kernel, by decide +kernel⟩
def L0__law_refused : Addr → DLm → DXS → DTS := fun fa_ La_ E => (dSeq (dAsg (dTup (dCons (dC (.str "odd")) dNil)) (.nm 1))
  (dSeq (dTry11 kt "StoreError" "LackError" 2 2 (fun E => (dAsg (dTup (dCons (dC (.str "told")) (dCons (dCallL 0 fa_ La_ E) dNil))) (.nm 1))) (fun a_ y_ => (dSeq (dAsg (dL (fLst (dCons (dIsX kt 2 a_ y_ "NoPaper") (dCons (dIsX kt 2 a_ y_ "NoWrite") (dCons (dIsX kt 2 a_ y_ "NoUnique") (dCons (dIsX kt 2 a_ y_ "Waits") dNil)))))) (.nm 3))
  (dSeq (dAsg (dOp rdAdd (dVar 3) (dL (fLst (dCons (dIsX kt 2 a_ y_ "Ring") (dCons (dIsXT kt 2 a_ y_ "NoUse" ["NoText", "NoRow", "LackError"]) dNil))))) (.nm 3))
  (dIfS (dAnd (dTest (dOp rdEq (dML rdCount (dVar 3) (dCons (dC (.bool true)) dNil)) (dC (.int 1)))) (dTest (dIsX kt 2 a_ y_ "ValueError"))) (dSeq (dIfS (dOr (dTest (dOp rdIx (dVar 3) (dC (.int 0)))) (dTest (dOp rdIx (dVar 3) (dC (.int 1))))) (dAsg (dTup (dCons (dIf (dTest (dOp rdIx (dVar 3) (dC (.int 0)))) (dC (.str "paper")) (dC (.str "write"))) (dCons (dXf xt 2 a_ y_ "word") (dCons (dXf xt 2 a_ y_ "at") dNil)))) (.nm 1)) dNext)
  (dSeq (dIfS (dTest (dOp rdIx (dVar 3) (dC (.int 2)))) (dAsg (dTup (dCons (dC (.str "unique")) (dCons (dXf xt 2 a_ y_ "name") (dCons (dXf xt 2 a_ y_ "row") dNil)))) (.nm 1)) dNext)
  (dIfS (dOr (dTest (dOp rdIx (dVar 3) (dC (.int 3)))) (dTest (dOp rdIx (dVar 3) (dC (.int 4))))) (dAsg (dIf (dTest (dOp rdIx (dVar 3) (dC (.int 3)))) (dTup (dCons (dC (.str "waits")) (dCons (dXf xt 2 a_ y_ "writer") dNil))) (dTup (dCons (dC (.str "ring")) (dCons (dXf xt 2 a_ y_ "writers") dNil)))) (.nm 1)) dNext))) dNext)))) (fun a_ y_ => (dSeq (dAsg (dL (fLst (dCons (dIsX kt 2 a_ y_ "NoWriter") (dCons (dIsX kt 2 a_ y_ "NoSeen") (dCons (dIsX kt 2 a_ y_ "NoOrder") (dCons (dIsX kt 2 a_ y_ "NoStep") dNil)))))) (.nm 3))
  (dIfS (dAnd (dTest (dOp rdEq (dML rdCount (dVar 3) (dCons (dC (.bool true)) dNil)) (dC (.int 1)))) (dAnd (dTest (dIsX kt 2 a_ y_ "LookupError")) (dNot (dTest (dOp rdIx (dVar 3) (dC (.int 3))))))) (dIfS (dTest (dOp rdIx (dVar 3) (dC (.int 0)))) (dAsg (dTup (dCons (dC (.str "writer")) (dCons (dXf xt 2 a_ y_ "number") dNil))) (.nm 1)) (dAsg (dIf (dTest (dOp rdIx (dVar 3) (dC (.int 1)))) (dTup (dCons (dC (.str "seen")) (dCons (dXf xt 2 a_ y_ "row") dNil))) (dTup (dCons (dC (.str "order")) (dCons (dXf xt 2 a_ y_ "name") dNil)))) (.nm 1))) dNext))) noX)
  (dRet (dVar 1))))
def NL__law_refused : List Str := ["_law_ask", "_law_found", "e", "_law_sorts"]
def L__law_refused : LSp := fnL NL__law_refused "_law_ask" L0__law_refused
theorem f__law_refused {P : Program} {w : World} {K : PySem.W.Frag} {mg : Str → Option Value} {base : Heap} {T : List (Addr × Str)} {k : Nat} {f : Addr} {fd : FuncData} (F : Fun K "_law_refused" "_law_refused" s__law_refused f fd) (g_isinstance : mg "isinstance" = none) (g_ValueError : mg "ValueError" = none) (g_LookupError : mg "LookupError" = none) (m_StoreError : mg "StoreError" = some (.ref (He.ga K "StoreError"))) (m_LackError : mg "LackError" = some (.ref (He.ga K "LackError"))) (m_NoRow : mg "NoRow" = some (.ref (He.ga K "NoRow"))) (m_NoText : mg "NoText" = some (.ref (He.ga K "NoText"))) (m_NoUse : mg "NoUse" = some (.ref (He.ga K "NoUse"))) (m_Ring : mg "Ring" = some (.ref (He.ga K "Ring"))) (m_Waits : mg "Waits" = some (.ref (He.ga K "Waits"))) (m_NoUnique : mg "NoUnique" = some (.ref (He.ga K "NoUnique"))) (m_NoWrite : mg "NoWrite" = some (.ref (He.ga K "NoWrite"))) (m_NoPaper : mg "NoPaper" = some (.ref (He.ga K "NoPaper"))) (m_NoStep : mg "NoStep" = some (.ref (He.ga K "NoStep"))) (m_NoOrder : mg "NoOrder" = some (.ref (He.ga K "NoOrder"))) (m_NoSeen : mg "NoSeen" = some (.ref (He.ga K "NoSeen"))) (m_NoWriter : mg "NoWriter" = some (.ref (He.ga K "NoWriter"))) (kit_ : KitE K kt xt) (hm_ : mg "_law_refused" = some (.ref f)) :
    FnL P w K mg base T k "_law_refused" "_law_ask" NL__law_refused L0__law_refused := by
  have c_ := sc__law_refused
  refine ⟨f, fd, s__law_refused, F, sc__law_refused, F.kp, F.binds (fun _ _ _ _ _ _ us hl => match us, hl with | [_], _ => rfl), hm_, rfl, .inl rfl, by decide, by decide, fun cdv A outer s H E' Γ Ed fa_ La_ hcd hΓ hr hg tk act => ?_⟩
  have r1_ := room1 hr
  have r64_ := room64 hr
  have r65_ := room65 hr
  exact (dss_cons (ds_set 1 c_.nd (de_tup (da_cons de_str da_nil)))
    (dss_cons (ds_try11 2 2 (by rfl) (by rfl) c_.nd (names_own m_StoreError) (names_own m_LackError) (fun c b e => kit_.exm c _ b e) (fun c b e => kit_.exm c _ b e) takes_no
      (fun Γ1 hΓ1 hx1 hG1 Ed pn xe tk _ => have hΓ0 := hΓ; have hΓ := hΓ1.trans hΓ; (dss_one (ds_set 1 c_.nd (de_tup (da_cons de_str (da_cons (act _ _ _ _ _ _ hΓ1 hx1 hG1 tk) da_nil))))))
      (fun Γ1 hΓ1 a_ oe_ y_ d_ pn hz hf => have hΓ := hΓ1.trans hΓ; (dss_cons (ds_set 3 c_.nd (DF.toDE (df_lst (da_cons (de_isX 2 kit_ hz hf (by rfl) g_isinstance (dc_own (by rfl) m_NoPaper)) (da_cons (de_isX 2 kit_ hz hf (by rfl) g_isinstance (dc_own (by rfl) m_NoWrite)) (da_cons (de_isX 2 kit_ hz hf (by rfl) g_isinstance (dc_own (by rfl) m_NoUnique)) (da_cons (de_isX 2 kit_ hz hf (by rfl) g_isinstance (dc_own (by rfl) m_Waits)) da_nil)))))))
    (dss_cons (ds_set 3 c_.nd (de_bin op_addAll lr_add (dv 3) (DF.toDE (df_lst (da_cons (de_isX 2 kit_ hz hf (by rfl) g_isinstance (dc_own (by rfl) m_Ring)) (da_cons (de_isXT 2 kit_ hz hf (by rfl) g_isinstance (dcs_cons (dc_own (by rfl) m_NoUse) (dcs_cons (dc_own (by rfl) m_NoText) (dcs_cons (dc_own (by rfl) m_NoRow) (dcs_cons (dc_own (by rfl) m_LackError) dcs_nil))))) da_nil))))))
    (dss_one (ds_if (DW.dt (dw_and (dt_cmp (op_eqA r64_) lr_eq (de_mL PySem.F.plainAttrs_list PySem.F.slot_list_count PySem.F.type_list_count (mt_countD r65_) lm_count (dv 3) (da_cons de_bl da_nil)) de_int) (dw_and1 (dt_val (de_isX 2 kit_ hz hf (by rfl) g_isinstance (dc_bt (t := "ValueError") (by rfl) g_ValueError rfl (by decide +kernel))))))) (dss_cons (ds_if (DW.dt (dw_or (dt_val (de_ix r1_ (dv 3) de_int)) (dw_or1 (dt_val (de_ix r1_ (dv 3) de_int))))) (dss_one (ds_set 1 c_.nd (de_tup (da_cons (de_ifExp (dt_val (de_ix r1_ (dv 3) de_int)) de_str de_str) (da_cons (de_xf 2 kit_ hz hf) (da_cons (de_xf 2 kit_ hz hf) da_nil)))))) dss_nil)
    (dss_cons (ds_if (dt_val (de_ix r1_ (dv 3) de_int)) (dss_one (ds_set 1 c_.nd (de_tup (da_cons de_str (da_cons (de_xf 2 kit_ hz hf) (da_cons (de_xf 2 kit_ hz hf) da_nil)))))) dss_nil)
    (dss_one (ds_if (DW.dt (dw_or (dt_val (de_ix r1_ (dv 3) de_int)) (dw_or1 (dt_val (de_ix r1_ (dv 3) de_int))))) (dss_one (ds_set 1 c_.nd (de_ifExp (dt_val (de_ix r1_ (dv 3) de_int)) (de_tup (da_cons de_str (da_cons (de_xf 2 kit_ hz hf) da_nil))) (de_tup (da_cons de_str (da_cons (de_xf 2 kit_ hz hf) da_nil)))))) dss_nil)))) dss_nil)))))
      (fun Γ1 hΓ1 a_ oe_ y_ d_ pn hz hf => have hΓ := hΓ1.trans hΓ; (dss_cons (ds_set 3 c_.nd (DF.toDE (df_lst (da_cons (de_isX 2 kit_ hz hf (by rfl) g_isinstance (dc_own (by rfl) m_NoWriter)) (da_cons (de_isX 2 kit_ hz hf (by rfl) g_isinstance (dc_own (by rfl) m_NoSeen)) (da_cons (de_isX 2 kit_ hz hf (by rfl) g_isinstance (dc_own (by rfl) m_NoOrder)) (da_cons (de_isX 2 kit_ hz hf (by rfl) g_isinstance (dc_own (by rfl) m_NoStep)) da_nil)))))))
    (dss_one (ds_if (DW.dt (dw_and (dt_cmp (op_eqA r64_) lr_eq (de_mL PySem.F.plainAttrs_list PySem.F.slot_list_count PySem.F.type_list_count (mt_countD r65_) lm_count (dv 3) (da_cons de_bl da_nil)) de_int) (dw_and (dt_val (de_isX 2 kit_ hz hf (by rfl) g_isinstance (dc_bt (t := "LookupError") (by rfl) g_LookupError rfl (by decide +kernel)))) (dw_and1 (dt_not (dt_val (de_ix r1_ (dv 3) de_int))))))) (dss_one (ds_if (dt_val (de_ix r1_ (dv 3) de_int)) (dss_one (ds_set 1 c_.nd (de_tup (da_cons de_str (da_cons (de_xf 2 kit_ hz hf) da_nil))))) (dss_one (ds_set 1 c_.nd (de_ifExp (dt_val (de_ix r1_ (dv 3) de_int)) (de_tup (da_cons de_str (da_cons (de_xf 2 kit_ hz hf) da_nil))) (de_tup (da_cons de_str (da_cons (de_xf 2 kit_ hz hf) da_nil)))))))) dss_nil)))))
    (dss_one (ds_ret (dv 1)))))
/-! ### _law_waits -/
theorem sc__law_waits : FnScope ["_law_tape_here", "_law_many", "_law_k", "_law_pairs", "_law_left", "_law_some", "_law_one"] ["_law_tape_here"] (defScope s__law_waits) := ⟨rfl, rfl, rfl, by decide +kernel, rfl, by decide +kernel, by decide +kernel⟩
def t__law_waits : DTS := (dSeq (dAsg (dOp rdAdd (dC (.int 2)) (dCall noX W__law_draw (dCons (dVar 0) (dCons (dC (.int 7)) dNil)))) (.nm 1))
  (dSeq (dUnp (dTupO (dCons (dOwn (fLstRg1 (dVar 1))) (dCons (dOwn (fLst dNil)) dNil))) [4, 5])
  (dSeq (dFor (wRg1 (dOp rdAdd (dC (.int 1)) (dCall noX W__law_draw (dCons (dVar 0) (dCons (dVar 1) dNil))))) (.nm 2) (dDrop (dML rdAppend (dVar 5) (dCons (dML rdPopAt (dVar 4) (dCons (dCall noX W__law_draw (dCons (dVar 0) (dCons (dB rdLen (dCons (dVar 4) dNil)) dNil))) dNil)) dNil))))
  (dSeq (dAsg (dL (fLc (wRg1 (dB rdLen (dCons (dVar 5) dNil))) (.nm 2) dYes (dTup (dCons (dOp rdIx (dVar 5) (dVar 2)) (dCons (dOp rdIx (dVar 5) (dOp rdMod (dOp rdAdd (dVar 2) (dC (.int 1))) (dB rdLen (dCons (dVar 5) dNil)))) dNil))) [2])) (.nm 3))
  (dSeq (dAsg (dOp rdAdd (dVar 3) (dL (fLcG (dVar 4) (.nm 6) dYes (dTup (dCons (dVar 6) (dCons (dCall noX W__law_draw (dCons (dVar 0) (dCons (dVar 1) dNil))) dNil))) [6]))) (.nm 3))
  (dRet (dTupO (dCons (dB rdTupleP (dCons (dL (fB rdSorted (dCons (dVar 3) dNil))) dNil)) (dCons (dB rdTuple (dCons (dVar 5) dNil)) dNil)))))))))
def W__law_waits : DSp := fnW ["_law_tape_here", "_law_many", "_law_k", "_law_pairs", "_law_left", "_law_some", "_law_one"] ["_law_tape_here"] fun _ => t__law_waits
theorem f__law_waits {P : Program} {w : World} {K : PySem.W.Frag} {mg : Str → Option Value} {base : Heap} {T : List (Addr × Str)} {k : Nat} {f : Addr} {fd : FuncData} (F : Fun K "_law_waits" "_law_waits" s__law_waits f fd) (c__law_draw : FnC P w K mg base T k "_law_draw" ["_law_tape_here", "_law_many"] W__law_draw) (g_tuple : mg "tuple" = none) (g_sorted : mg "sorted" = none) (g_range : mg "range" = none) (g_len : mg "len" = none) (g_list : mg "list" = none) :
    FnG P w K mg base T (k + 1) f fd ["_law_tape_here"] W__law_waits := by
  have c_ := sc__law_waits
  refine fn_g (k := k) F sc__law_waits fun cdv A outer s H E' Γ Ed hcd hΓ hr hg tk => ?_
  have r1_ := room1 hr
  have r64_ := room64 hr
  have r65_ := room65 hr
  exact (dss_cons (ds_set 1 c_.nd (de_bin op_addAll lr_add de_int (de_fn hΓ c__law_draw hr hg takes_no (da_cons (dv 0) (da_cons de_int da_nil)))))
    (dss_cons (ds_unp (de_tupO (da_cons (DF.toOwn (df_lstRg1 (by rfl) (by rfl) g_list (by rfl) g_range (dv 1))) (da_cons (DF.toOwn (df_lst da_nil)) da_nil))) (dg_tup (by rfl) (dgs_cons (dg_nm 4 c_.nd) (dgs_cons (dg_nm 5 c_.nd) dgs_nil))))
    (dss_cons (ds_for (passes_of rfl) (by rfl) (dw_rg1 (by rfl) g_range (de_bin op_addAll lr_add de_int (de_fn hΓ c__law_draw hr hg takes_no (da_cons (dv 0) (da_cons (dv 1) da_nil))))) (dg_nm 2 c_.nd) (dss_one (ds_expr (de_mL PySem.F.plainAttrs_list PySem.F.slot_list_append PySem.F.type_list_append mt_append lm_append (dv 5) (da_cons (de_mL PySem.F.plainAttrs_list PySem.F.slot_list_pop PySem.F.type_list_pop mt_popAt lm_popAt (dv 4) (da_cons (de_fn hΓ c__law_draw hr hg takes_no (da_cons (dv 0) (da_cons (de_callB cr_len la_len (by rfl) g_len (by decide +kernel) (da_cons (dv 4) da_nil)) da_nil))) da_nil)) da_nil)))))
    (dss_cons (ds_lc 3 (by rfl) c_.nd (dw_rg1 (by rfl) g_range (de_callB cr_len la_len (by rfl) g_len (by decide +kernel) (da_cons (dv 5) da_nil))) (own := [("_law_k", 2)]) (show BlkOk ["_law_tape_here", "_law_many", "_law_k", "_law_pairs", "_law_left", "_law_some", "_law_one"] (defScope s__law_waits) _ _ from blkOk_by (by decide +kernel)) (fun _ _ _ _ _ => (dg_nm 2 c_.nd)) (by decide) (fun Γ' hΓ1 _ _ _ _ _ => have hΓ := hΓ1.trans hΓ; dts_nil) (fun Γ' hΓ1 _ _ _ _ _ => have hΓ := hΓ1.trans hΓ; (de_tup (da_cons (de_ix r1_ (dv 5) (dv 2)) (da_cons (de_ix r1_ (dv 5) (de_bin op_modN lr_mod (de_bin op_addAll lr_add (dv 2) de_int) (de_callB cr_len la_len (by rfl) g_len (by decide +kernel) (da_cons (dv 5) da_nil)))) da_nil)))))
    (dss_cons (ds_set 3 c_.nd (de_bin op_addAll lr_add (dv 3) (DF.toDE (df_lcG (by rfl) c_.nd (dv 4) (own := [("_law_one", 6)]) (show BlkOk ["_law_tape_here", "_law_many", "_law_k", "_law_pairs", "_law_left", "_law_some", "_law_one"] (defScope s__law_waits) _ _ from blkOk_by (by decide +kernel)) (fun _ _ _ _ _ => (dg_nm 6 c_.nd)) (by decide) (fun Γ' hΓ1 _ _ _ _ _ => have hΓ := hΓ1.trans hΓ; dts_nil) (fun Γ' hΓ1 _ _ _ _ _ => have hΓ := hΓ1.trans hΓ; (de_tup (da_cons (dv 6) (da_cons (de_fn hΓ c__law_draw hr hg takes_no (da_cons (dv 0) (da_cons (dv 1) da_nil))) da_nil))))))))
    (dss_one (ds_ret (de_tupO (da_cons (de_callTy call_tupleP la_tupleP (by rfl) g_tuple (by decide +kernel) (da_cons (DF.toDE (df_callB cr_sort lf_sort (by rfl) g_sorted (by decide +kernel) (da_cons (dv 3) da_nil))) da_nil)) (da_cons (de_callTy call_tuple_of la_tuple (by rfl) g_tuple (by decide +kernel) (da_cons (dv 5) da_nil)) da_nil))))))))))
/-! ### _law_due -/
theorem sc__law_due : FnScope ["_law_pairs", "_law_thing", "_law_k", "_law_later", "_law_one", "_law_pair"] ["_law_pairs", "_law_thing"] (defScope s__law_due) := ⟨rfl, rfl, rfl, by decide +kernel, rfl, by decide +kernel, by decide +kernel⟩
def t__law_due : DTS := (dSeq (dIfS (dOr (dNot (dTest (dIsT (dVar 1) "tuple"))) (dTest (dOp rdEq (dVar 1) (dTup dNil)))) (dRet (dTup (dCons (dC (.str "paper")) (dCons (dC (.str "shape")) (dCons (dNeg (dC (.int 1))) dNil))))) dNext)
  (dSeq (dIfS (dTest (dOp rdNe (dL (fLc (wSeq (dVar 1)) (.nm 4) (dOr (dNot (dTest (dIsT (dVar 4) "int"))) (dTest (dIsT (dVar 4) "bool"))) (dVar 4) [4])) (dL (fLst dNil)))) (dRet (dTup (dCons (dC (.str "paper")) (dCons (dC (.str "shape")) (dCons (dNeg (dC (.int 1))) dNil))))) dNext)
  (dSeq (dFor (wRg1 (dB rdLen (dCons (dVar 1) dNil))) (.nm 2) (dIfS (dTest (dOp (rdInT false) (dOp rdIx (dVar 1) (dVar 2)) (dSl (dVar 1) dNoPart (dPart (dVar 2))))) (dRet (dTup (dCons (dC (.str "paper")) (dCons (dC (.str "twice")) (dCons (dVar 2) dNil))))) dNext))
  (dSeq (dFor (wRg1 (dB rdLen (dCons (dVar 1) dNil))) (.nm 2) (dSeq (dAsg (dIf (dTest (dOp rdLt (dOp rdAdd (dVar 2) (dC (.int 1))) (dB rdLen (dCons (dVar 1) dNil)))) (dOp rdIx (dVar 1) (dOp rdAdd (dVar 2) (dC (.int 1)))) (dOp rdIx (dVar 1) (dC (.int 0)))) (.nm 3))
  (dIfS (dTest (dOp rdEq (dL (fLc (wSeq (dVar 0)) (.nm 5) (dAnd (dTest (dOp rdEq (dOp rdIx (dVar 5) (dC (.int 0))) (dOp rdIx (dVar 1) (dVar 2)))) (dTest (dOp rdEq (dOp rdIx (dVar 5) (dC (.int 1))) (dVar 3)))) (dVar 5) [5])) (dL (fLst dNil)))) (dRet (dTup (dCons (dC (.str "paper")) (dCons (dC (.str "waits")) (dCons (dVar 2) dNil))))) dNext)))
  (dRet (dTup (dCons (dC (.str "told")) (dCons (dB rdLen (dCons (dVar 1) dNil)) dNil))))))))
def W__law_due : DSp := fnW ["_law_pairs", "_law_thing", "_law_k", "_law_later", "_law_one", "_law_pair"] ["_law_pairs", "_law_thing"] fun _ => t__law_due
theorem f__law_due {P : Program} {w : World} {K : PySem.W.Frag} {mg : Str → Option Value} {base : Heap} {T : List (Addr × Str)} {k : Nat} {f : Addr} {fd : FuncData} (F : Fun K "_law_due" "_law_due" s__law_due f fd) (g_len : mg "len" = none) (g_range : mg "range" = none) (g_isinstance : mg "isinstance" = none) (g_int : mg "int" = none) (g_bool : mg "bool" = none) (g_tuple : mg "tuple" = none) :
    FnG P w K mg base T (k + 1) f fd ["_law_pairs", "_law_thing"] W__law_due := by
  have c_ := sc__law_due
  refine fn_g (k := k) F sc__law_due fun cdv A outer s H E' Γ Ed hcd hΓ hr hg tk => ?_
  have r1_ := room1 hr
  have r64_ := room64 hr
  have r65_ := room65 hr
  exact (dss_cons (ds_if (DW.dt (dw_or (dt_not (dt_val (de_isT (n := "tuple") (dv 1) (by rfl) g_isinstance (by rfl) g_tuple (by decide +kernel)))) (dw_or1 (dt_cmp (op_eqA r64_) lr_eq (dv 1) (de_tup da_nil))))) (dss_one (ds_ret (de_tup (da_cons de_str (da_cons de_str (da_cons (de_neg de_int) da_nil)))))) dss_nil)
    (dss_cons (ds_if (dt_cmp (op_neA r64_) lr_ne (DF.toDE (df_lc (by rfl) c_.nd (dw_seq (dv 1)) (own := [("_law_one", 4)]) (show BlkOk ["_law_pairs", "_law_thing", "_law_k", "_law_later", "_law_one", "_law_pair"] (defScope s__law_due) _ _ from blkOk_by (by decide +kernel)) (fun _ _ _ _ _ => (dg_nm 4 c_.nd)) (by decide) (fun Γ' hΓ1 _ _ _ _ _ => have hΓ := hΓ1.trans hΓ; (dts_one (DW.dt (dw_or (dt_not (dt_val (de_isT (n := "int") (dv 4) (by rfl) g_isinstance (by rfl) g_int (by decide +kernel)))) (dw_or1 (dt_val (de_isT (n := "bool") (dv 4) (by rfl) g_isinstance (by rfl) g_bool (by decide +kernel)))))))) (fun Γ' hΓ1 _ _ _ _ _ => have hΓ := hΓ1.trans hΓ; (dv 4)))) (DF.toDE (df_lst da_nil))) (dss_one (ds_ret (de_tup (da_cons de_str (da_cons de_str (da_cons (de_neg de_int) da_nil)))))) dss_nil)
    (dss_cons (ds_for (passes_of rfl) (by rfl) (dw_rg1 (by rfl) g_range (de_callB cr_len la_len (by rfl) g_len (by decide +kernel) (da_cons (dv 1) da_nil))) (dg_nm 2 c_.nd) (dss_one (ds_if (dt_cmp (op_inT r65_) lr_inT (de_ix r1_ (dv 1) (dv 2)) (de_sl (dv 1) do_none (do_some (dv 2)))) (dss_one (ds_ret (de_tup (da_cons de_str (da_cons de_str (da_cons (dv 2) da_nil)))))) dss_nil)))
    (dss_cons (ds_for (passes_of rfl) (by rfl) (dw_rg1 (by rfl) g_range (de_callB cr_len la_len (by rfl) g_len (by decide +kernel) (da_cons (dv 1) da_nil))) (dg_nm 2 c_.nd) (dss_cons (ds_set 3 c_.nd (de_ifExp (dt_cmp (op_ltG r1_) lr_lt (de_bin op_addAll lr_add (dv 2) de_int) (de_callB cr_len la_len (by rfl) g_len (by decide +kernel) (da_cons (dv 1) da_nil))) (de_ix r1_ (dv 1) (de_bin op_addAll lr_add (dv 2) de_int)) (de_ix r1_ (dv 1) de_int)))
    (dss_one (ds_if (dt_cmp (op_eqA r64_) lr_eq (DF.toDE (df_lc (by rfl) c_.nd (dw_seq (dv 0)) (own := [("_law_pair", 5)]) (show BlkOk ["_law_pairs", "_law_thing", "_law_k", "_law_later", "_law_one", "_law_pair"] (defScope s__law_due) _ _ from blkOk_by (by decide +kernel)) (fun _ _ _ _ _ => (dg_nm 5 c_.nd)) (by decide) (fun Γ' hΓ1 _ _ _ _ _ => have hΓ := hΓ1.trans hΓ; (dts_one (DW.dt (dw_and (dt_cmp (op_eqA r64_) lr_eq (de_ix r1_ (dv 5) de_int) (de_ix r1_ (dv 1) (dv 2))) (dw_and1 (dt_cmp (op_eqA r64_) lr_eq (de_ix r1_ (dv 5) de_int) (dv 3))))))) (fun Γ' hΓ1 _ _ _ _ _ => have hΓ := hΓ1.trans hΓ; (dv 5)))) (DF.toDE (df_lst da_nil))) (dss_one (ds_ret (de_tup (da_cons de_str (da_cons de_str (da_cons (dv 2) da_nil)))))) dss_nil))))
    (dss_one (ds_ret (de_tup (da_cons de_str (da_cons (de_callB cr_len la_len (by rfl) g_len (by decide +kernel) (da_cons (dv 1) da_nil)) da_nil)))))))))
/-! ### law -/
theorem sc_law : FnScope ["_law_script", "_law_tape_here", "_law_menu", "_law_thing", "_law_lap", "_law_wide", "_law_far", "_law_at", "_law_things", "_law_turn", "_law_pairs", "_law_ring", "_law_bent_here", "_law_kept", "_law_k"] ["_law_script"] (defScope s_law) := ⟨rfl, rfl, rfl, by decide +kernel, rfl, by decide +kernel, by decide +kernel⟩
def t_law (E : DXS) : DTS := (dSeq (dAsg (dCall noX W__law_tape (dCons (dVar 0) dNil)) (.nm 1))
  (dSeq (dAsg (dL (fLst (dCons (dC .none) (dCons (dC (.bool true)) (dCons (dC (.str "")) (dCons (dC (.int 0)) (dCons (dC (.int 1)) (dCons (dNeg (dC (.int 1))) (dCons (dOp rdPow (dC (.int 10)) (dC (.int 40))) (dCons (dTup (dCons (dC (.int 0)) dNil)) (dCons (dL (fLst (dCons (dC (.int 0)) dNil))) dNil))))))))))) (.nm 2))
  (dSeq (dAsg (dTup (dCons (dB rdTuple (dCons (dL (fLc (wRg1 (dC (.int 20))) (.nm 14) dYes (dTup (dCons (dVar 14) (dCons (dOp rdMod (dOp rdAdd (dVar 14) (dC (.int 7))) (dC (.int 20))) dNil))) [14])) dNil)) (dCons (dB rdTuple (dCons (dL (fLc (wRg1 (dC (.int 20))) (.nm 14) dYes (dOp rdMod (dOp rdMul (dC (.int 7)) (dVar 14)) (dC (.int 20))) [14])) dNil)) dNil))) (.tup [5, 6]))
  (dSeq (dFor (wSeq (dTup (dCons (dVar 6) (dCons (dOp rdAdd (dSl (dVar 6) (dPart (dC (.int 3))) dNoPart) (dSl (dVar 6) dNoPart (dPart (dC (.int 3))))) (dCons (dSl (dVar 6) (dPart (dC (.int 1))) dNoPart) (dCons (dOp rdAdd (dVar 6) (dSl (dVar 6) dNoPart (dPart (dC (.int 1))))) dNil)))))) (.nm 3) (dIfS (dTest (dOp rdNe (dB rdRepr (dCons (dLamC L__law_refused (fun Ed => (dCall Ed W_lets_ring (dCons (dVar 5) (dCons (dVar 3) dNil)))) noX) dNil)) (dB rdRepr (dCons (dCall noX W__law_due (dCons (dVar 5) (dCons (dVar 3) dNil))) dNil)))) (dRet (dC (.bool false))) dNext))
  (dSeq (dFor (wRg1 (dC (.int 3))) (.nm 4) (dSeq (dUnp (dCall noX W__law_waits (dCons (dVar 1) dNil)) [10, 11])
  (dSeq (dIfS (dTest (dOp rdNe (dB rdRepr (dCons (dCall noX W_ring_from (dCons (dVar 10) (dCons (dOp rdIx (dVar 11) (dC (.int 0))) dNil))) dNil)) (dB rdRepr (dCons (dVar 11) dNil)))) (dRet (dC (.bool false))) dNext)
  (dSeq (dAsg (dCall noX W__law_draw (dCons (dVar 1) (dCons (dB rdLen (dCons (dVar 11) dNil)) dNil))) (.nm 7))
  (dSeq (dAsg (dL (fLst (dCons (dVar 11) (dCons (dOp rdAdd (dSl (dVar 11) (dPart (dVar 7)) dNoPart) (dSl (dVar 11) dNoPart (dPart (dVar 7)))) (dCons (dSl (dVar 11) (dPart (dC (.int 1))) dNoPart) (dCons (dOp rdAdd (dVar 11) (dSl (dVar 11) dNoPart (dPart (dC (.int 1))))) (dCons (dRevA (dVar 11)) (dCons (dL (fB rfList (dCons (dVar 11) dNil))) (dCons (dTup dNil) (dCons (dC .none) (dCons (dTup (dCons (dC (.int 99)) dNil)) (dCons (dTup (dCons (dC (.int 0)) dNil)) dNil)))))))))))) (.nm 8))
  (dSeq (dAsg (dOp rdAdd (dVar 8) (dL (fLst (dCons (dOp rdAdd (dVar 11) (dTup (dCons (dC (.int 99)) dNil))) (dCons (dTup (dCons (dC (.bool true)) dNil)) (dCons (dOp rdAdd (dOp rdAdd (dSl (dVar 11) dNoPart (dPart (dVar 7))) (dTup (dCons (dC (.int 99)) dNil))) (dSl (dVar 11) (dPart (dVar 7)) dNoPart)) (dCons (dTupRg1 (dC (.int 9))) (dCons (dC (.str "ring")) dNil)))))))) (.nm 8))
  (dSeq (dFor (wRg1 (dC (.int 7))) (.nm 9) (dSeq (dAsg (dCall noX W__law_bent (dCons (dVar 1) (dCons (dVar 11) (dCons (dVar 2) dNil)))) (.nm 12))
  (dAsg (dOp rdAdd (dOp rdAdd (dVar 8) (dL (fLst (dCons (dVar 12) dNil)))) (dOp rdMul (dL (fLst (dCons (dCall noX W__law_bent (dCons (dVar 1) (dCons (dVar 12) (dCons (dVar 2) dNil)))) dNil))) (dB rdInt (dCons (dOp rdGt (dVar 9) (dC (.int 4))) dNil)))) (.nm 8))))
  (dFor (wSeq (dVar 8)) (.nm 3) (dSeq (dAsg (dB rdRepr (dCons (dTup (dCons (dAsP (dVar 10)) (dCons (dVar 3) dNil))) dNil)) (.nm 13))
  (dSeq (dIfS (dTest (dOp rdNe (dB rdRepr (dCons (dLamC L__law_refused (fun Ed => (dCall Ed W_lets_ring (dCons (dAsP (dVar 10)) (dCons (dVar 3) dNil)))) noX) dNil)) (dB rdRepr (dCons (dCall noX W__law_due (dCons (dAsP (dVar 10)) (dCons (dVar 3) dNil))) dNil)))) (dRet (dC (.bool false))) dNext)
  (dIfS (dTest (dOp rdNe (dB rdRepr (dCons (dTup (dCons (dAsP (dVar 10)) (dCons (dVar 3) dNil))) dNil)) (dVar 13))) (dRet (dC (.bool false))) dNext)))))))))))
  (dRet (dOp rdEq (dCall E W_lets_ring (dCons (dTup (dCons (dTup (dCons (dC (.int 3)) (dCons (dC (.int 3)) dNil))) dNil)) (dCons (dTup (dCons (dC (.int 3)) dNil)) dNil))) (dC (.int 1)))))))))
def W_law : DSp := fnW ["_law_script", "_law_tape_here", "_law_menu", "_law_thing", "_law_lap", "_law_wide", "_law_far", "_law_at", "_law_things", "_law_turn", "_law_pairs", "_law_ring", "_law_bent_here", "_law_kept", "_law_k"] ["_law_script"] t_law
theorem f_law {P : Program} {w : World} {K : PySem.W.Frag} {mg : Str → Option Value} {base : Heap} {T : List (Addr × Str)} {k : Nat} {f : Addr} {fd : FuncData} (F : Fun K "law" "law" s_law f fd) (c_lets_ring : FnC P w K mg base T k "lets_ring" ["waits", "thing"] W_lets_ring) (l__law_refused : FnL P w K mg base T (k + 1) "_law_refused" "_law_ask" NL__law_refused L0__law_refused) (c__law_due : FnC P w K mg base T k "_law_due" ["_law_pairs", "_law_thing"] W__law_due) (c__law_bent : FnC P w K mg base T k "_law_bent" ["_law_tape_here", "_law_thing", "_law_menu"] W__law_bent) (c__law_draw : FnC P w K mg base T k "_law_draw" ["_law_tape_here", "_law_many"] W__law_draw) (c_ring_from : FnC P w K mg base T k "ring_from" ["waits", "number"] W_ring_from) (c__law_waits : FnC P w K mg base T k "_law_waits" ["_law_tape_here"] W__law_waits) (c__law_tape : FnC P w K mg base T k "_law_tape" ["_law_script"] W__law_tape) (g_range : mg "range" = none) (g_repr : mg "repr" = none) (g_int : mg "int" = none) (g_tuple : mg "tuple" = none) (g_list : mg "list" = none) (g_len : mg "len" = none) (hT0 : TabOf base mg T fd.code "law.<locals>.") :
    FnG P w K mg base T (k + 3) f fd ["_law_script"] W_law := by
  have c_ := sc_law
  refine fn_g (k := k + 2) F sc_law fun cdv A outer s H E' Γ Ed hcd hΓ hr3 hg tk => ?_
  have hr := hr3.mono (show k ≤ k + 2 by omega)
  have r1_ := room1 hr
  have r64_ := room64 hr
  have r65_ := room65 hr
  have hT : TabOf base mg T cdv "law.<locals>." := by rw [← hcd]; exact hT0
  exact (dss_cons (ds_set 1 c_.nd (de_fn hΓ c__law_tape hr hg takes_no (da_cons (dv 0) da_nil)))
    (dss_cons (ds_set 2 c_.nd (DF.toDE (df_lst (da_cons de_non (da_cons de_bl (da_cons de_str (da_cons de_int (da_cons de_int (da_cons (de_neg de_int) (da_cons (de_bin op_pow lr_pow de_int de_int) (da_cons (de_tup (da_cons de_int da_nil)) (da_cons (DF.toDE (df_lst (da_cons de_int da_nil))) da_nil))))))))))))
    (dss_cons (ds_asg (de_tup (da_cons (de_callTy call_tuple_of la_tuple (by rfl) g_tuple (by decide +kernel) (da_cons (DF.toDE (df_lc (by rfl) c_.nd (dw_rg1 (by rfl) g_range de_int) (own := [("_law_k", 14)]) (show BlkOk ["_law_script", "_law_tape_here", "_law_menu", "_law_thing", "_law_lap", "_law_wide", "_law_far", "_law_at", "_law_things", "_law_turn", "_law_pairs", "_law_ring", "_law_bent_here", "_law_kept", "_law_k"] (defScope s_law) _ _ from blkOk_by (by decide +kernel)) (fun _ _ _ _ _ => (dg_nm 14 c_.nd)) (by decide) (fun Γ' hΓ1 _ _ _ _ _ => have hΓ := hΓ1.trans hΓ; dts_nil) (fun Γ' hΓ1 _ _ _ _ _ => have hΓ := hΓ1.trans hΓ; (de_tup (da_cons (dv 14) (da_cons (de_bin op_modN lr_mod (de_bin op_addAll lr_add (dv 14) de_int) de_int) da_nil)))))) da_nil)) (da_cons (de_callTy call_tuple_of la_tuple (by rfl) g_tuple (by decide +kernel) (da_cons (DF.toDE (df_lc (by rfl) c_.nd (dw_rg1 (by rfl) g_range de_int) (own := [("_law_k", 14)]) (show BlkOk ["_law_script", "_law_tape_here", "_law_menu", "_law_thing", "_law_lap", "_law_wide", "_law_far", "_law_at", "_law_things", "_law_turn", "_law_pairs", "_law_ring", "_law_bent_here", "_law_kept", "_law_k"] (defScope s_law) _ _ from blkOk_by (by decide +kernel)) (fun _ _ _ _ _ => (dg_nm 14 c_.nd)) (by decide) (fun Γ' hΓ1 _ _ _ _ _ => have hΓ := hΓ1.trans hΓ; dts_nil) (fun Γ' hΓ1 _ _ _ _ _ => have hΓ := hΓ1.trans hΓ; (de_bin op_modN lr_mod (de_bin op_mulAll lr_mul de_int (dv 14)) de_int)))) da_nil)) da_nil))) (dg_tup (by rfl) (dgs_cons (dg_nm 5 c_.nd) (dgs_cons (dg_nm 6 c_.nd) dgs_nil))))
    (dss_cons (ds_for (passes_of rfl) (by rfl) (dw_seq (de_tup (da_cons (dv 6) (da_cons (de_bin op_addAll lr_add (de_sl (dv 6) (do_some de_int) do_none) (de_sl (dv 6) do_none (do_some de_int))) (da_cons (de_sl (dv 6) (do_some de_int) do_none) (da_cons (de_bin op_addAll lr_add (dv 6) (de_sl (dv 6) do_none (do_some de_int))) da_nil)))))) (dg_nm 3 c_.nd) (dss_one (ds_if (dt_cmp (op_neA r64_) lr_ne (de_callB (cr_repr hg r64_) la_repr (by rfl) g_repr (by decide +kernel) (da_cons (de_lamC hΓ l__law_refused hT hr3 (by omega) hg takes_no (fun A outer s H E0 f c1 pn xe Γ1 Ed hΓ1 hr hg tk => have hΓ := hΓ1.trans hΓ; (de_fn hΓ c_lets_ring hr hg tk (da_cons (dv 5) (da_cons (dv 3) da_nil))))) da_nil)) (de_callB (cr_repr hg r64_) la_repr (by rfl) g_repr (by decide +kernel) (da_cons (de_fn hΓ c__law_due hr hg takes_no (da_cons (dv 5) (da_cons (dv 3) da_nil))) da_nil))) (dss_one (ds_ret de_bl)) dss_nil)))
    (dss_cons (ds_for (passes_of rfl) (by rfl) (dw_rg1 (by rfl) g_range de_int) (dg_nm 4 c_.nd) (dss_cons (ds_unp (de_fn hΓ c__law_waits hr hg takes_no (da_cons (dv 1) da_nil)) (dg_tup (by rfl) (dgs_cons (dg_nm 10 c_.nd) (dgs_cons (dg_nm 11 c_.nd) dgs_nil))))
    (dss_cons (ds_if (dt_cmp (op_neA r64_) lr_ne (de_callB (cr_repr hg r64_) la_repr (by rfl) g_repr (by decide +kernel) (da_cons (de_fn hΓ c_ring_from hr hg takes_no (da_cons (dv 10) (da_cons (de_ix r1_ (dv 11) de_int) da_nil))) da_nil)) (de_callB (cr_repr hg r64_) la_repr (by rfl) g_repr (by decide +kernel) (da_cons (dv 11) da_nil))) (dss_one (ds_ret de_bl)) dss_nil)
    (dss_cons (ds_set 7 c_.nd (de_fn hΓ c__law_draw hr hg takes_no (da_cons (dv 1) (da_cons (de_callB cr_len la_len (by rfl) g_len (by decide +kernel) (da_cons (dv 11) da_nil)) da_nil))))
    (dss_cons (ds_set 8 c_.nd (DF.toDE (df_lst (da_cons (dv 11) (da_cons (de_bin op_addAll lr_add (de_sl (dv 11) (do_some (dv 7)) do_none) (de_sl (dv 11) do_none (do_some (dv 7)))) (da_cons (de_sl (dv 11) (do_some de_int) do_none) (da_cons (de_bin op_addAll lr_add (dv 11) (de_sl (dv 11) do_none (do_some de_int))) (da_cons (de_revA (dv 11)) (da_cons (DF.toDE (df_callTy call_list_of lf_list (by rfl) g_list (by decide +kernel) (da_cons (dv 11) da_nil))) (da_cons (de_tup da_nil) (da_cons de_non (da_cons (de_tup (da_cons de_int da_nil)) (da_cons (de_tup (da_cons de_int da_nil)) da_nil)))))))))))))
    (dss_cons (ds_set 8 c_.nd (de_bin op_addAll lr_add (dv 8) (DF.toDE (df_lst (da_cons (de_bin op_addAll lr_add (dv 11) (de_tup (da_cons de_int da_nil))) (da_cons (de_tup (da_cons de_bl da_nil)) (da_cons (de_bin op_addAll lr_add (de_bin op_addAll lr_add (de_sl (dv 11) do_none (do_some (dv 7))) (de_tup (da_cons de_int da_nil))) (de_sl (dv 11) (do_some (dv 7)) do_none)) (da_cons (de_tupRg1 (by rfl) (by rfl) g_tuple (by rfl) g_range de_int) (da_cons de_str da_nil)))))))))
    (dss_cons (ds_for (passes_of rfl) (by rfl) (dw_rg1 (by rfl) g_range de_int) (dg_nm 9 c_.nd) (dss_cons (ds_set 12 c_.nd (de_fn hΓ c__law_bent hr hg takes_no (da_cons (dv 1) (da_cons (dv 11) (da_cons (dv 2) da_nil)))))
    (dss_one (ds_set 8 c_.nd (de_bin op_addAll lr_add (de_bin op_addAll lr_add (dv 8) (DF.toDE (df_lst (da_cons (dv 12) da_nil)))) (de_bin op_mulAll lr_mul (DF.toDE (df_lst (da_cons (de_fn hΓ c__law_bent hr hg takes_no (da_cons (dv 1) (da_cons (dv 12) (da_cons (dv 2) da_nil)))) da_nil))) (de_callTy call_int1 la_int (by rfl) g_int (by decide +kernel) (da_cons (de_cmp (op_gtG r1_) lr_gt (dv 9) de_int) da_nil))))))))
    (dss_one (ds_for (passes_of rfl) (by rfl) (dw_seq (dv 8)) (dg_nm 3 c_.nd) (dss_cons (ds_set 13 c_.nd (de_callB (cr_repr hg r64_) la_repr (by rfl) g_repr (by decide +kernel) (da_cons (de_tup (da_cons (de_asP (dv 10)) (da_cons (dv 3) da_nil))) da_nil)))
    (dss_cons (ds_if (dt_cmp (op_neA r64_) lr_ne (de_callB (cr_repr hg r64_) la_repr (by rfl) g_repr (by decide +kernel) (da_cons (de_lamC hΓ l__law_refused hT hr3 (by omega) hg takes_no (fun A outer s H E0 f c1 pn xe Γ1 Ed hΓ1 hr hg tk => have hΓ := hΓ1.trans hΓ; (de_fn hΓ c_lets_ring hr hg tk (da_cons (de_asP (dv 10)) (da_cons (dv 3) da_nil))))) da_nil)) (de_callB (cr_repr hg r64_) la_repr (by rfl) g_repr (by decide +kernel) (da_cons (de_fn hΓ c__law_due hr hg takes_no (da_cons (de_asP (dv 10)) (da_cons (dv 3) da_nil))) da_nil))) (dss_one (ds_ret de_bl)) dss_nil)
    (dss_one (ds_if (dt_cmp (op_neA r64_) lr_ne (de_callB (cr_repr hg r64_) la_repr (by rfl) g_repr (by decide +kernel) (da_cons (de_tup (da_cons (de_asP (dv 10)) (da_cons (dv 3) da_nil))) da_nil)) (dv 13)) (dss_one (ds_ret de_bl)) dss_nil)))))))))))))
    (dss_one (ds_ret (de_cmp (op_eqA r64_) lr_eq (de_fn hΓ c_lets_ring hr hg tk (da_cons (de_tup (da_cons (de_tup (da_cons de_int (da_cons de_int da_nil))) da_nil)) (da_cons (de_tup (da_cons de_int da_nil)) da_nil))) de_int))))))))
end DL.G
namespace DL.G
open PySem PySem.Spec PyProof.Rows L2
set_option autoImplicit true
local macro_rules | `(tactic| walk_at "hp") => `(tactic| first | assumption | exact put_same | exact (put_other (by assumption)).trans (by assumption) | exact (put_other (Ne.symm (by assumption))).trans (by assumption) | (simp only [put_same, put_other, ne_eq, *]; done))
local macro_rules | `(tactic| walk_at "sh") => `(tactic| first | exact shaped_int _ | exact shaped_none | exact shaped_bool _ | rfl | assumption | exact shaped_ok (n := 8) (by decide) (by assumption))
local macro_rules | `(tactic| walk_at "dl1") => `(tactic| first
  | with_reducible refine e_seq ?_
  | with_reducible refine e_ret ?_
  | with_reducible refine e_asg ?_
  | with_reducible refine k_nm ?_
  | with_reducible refine e_if ?_
  | with_reducible refine e_drop ?_
  | with_reducible refine e_next ?_
  | with_reducible refine e_setIx ?_
  | with_reducible refine e_par ?_
  | with_reducible refine k_par ?_
  | with_reducible refine e_par3 ?_
  | with_reducible refine k_par3 ?_
  | with_reducible refine e_retF ?_
  | with_reducible refine e_for ?_
  | with_reducible refine e_op ?_
  | with_reducible refine e_c ?_
  | ((with_reducible apply e_var); exact rfl)
  | with_reducible refine e_test ?_
  | with_reducible refine k_test ?_
  | with_reducible refine e_and ?_
  | with_reducible refine e_or ?_
  | with_reducible refine e_not ?_
  | with_reducible refine k_not ?_
  | with_reducible refine e_andV ?_
  | with_reducible refine e_orV ?_
  | with_reducible refine e_notV ?_
  | with_reducible refine k_notV ?_
  | with_reducible refine e_ifE ?_
  | with_reducible refine e_nil ?_
  | with_reducible refine e_cons ?_
  | with_reducible refine e_tup ?_
  | ((with_reducible apply k_tup); exact rfl; exact rfl)
  | with_reducible refine e_lst ?_
  | ((with_reducible apply k_lst); exact rfl; exact rfl)
  | with_reducible refine e_L ?_
  | with_reducible refine e_Own ?_
  | with_reducible refine e_B ?_
  | with_reducible refine e_fB ?_
  | with_reducible refine e_call ?_
  | with_reducible refine e_callK ?_
  | with_reducible refine e_ML ?_
  | with_reducible refine e_negC ?_
  | with_reducible refine e_yes ?_
  | ((with_reducible apply k_ML); (first | exact rfl | exact asL_own (by walk_at "hp")))
  | ((with_reducible apply k_set); walk_at "hp"; exact rfl)
  | with_reducible refine r_add ?_
  | with_reducible refine r_sub ?_
  | with_reducible refine r_lt ?_
  | with_reducible refine r_le ?_
  | with_reducible refine r_gt ?_
  | with_reducible refine r_ge ?_
  | with_reducible refine r_eqI ?_
  | with_reducible refine r_neI ?_
  | with_reducible refine r_eqS ?_
  | with_reducible refine r_neS ?_
  | ((with_reducible apply r_eq); exact rfl; exact rfl; walk_at "sh"; walk_at "sh")
  | ((with_reducible apply r_ne); exact rfl; exact rfl; walk_at "sh"; walk_at "sh")
  | with_reducible refine r_isN ?_
  | with_reducible refine r_notN ?_
  | ((with_reducible apply r_mod); (first | decide | omega))
  | ((with_reducible apply r_div); (first | decide | exact ⟨by omega, by omega⟩))
  | ((with_reducible apply r_mul); (first | decide | exact .inl ⟨by omega, by omega⟩ | exact .inr ⟨by omega, by omega⟩))
  | ((with_reducible apply r_pow); (first | decide | exact ⟨by omega, by omega, by omega⟩))
  | ((with_reducible apply r_ixT); exact rfl)
  | ((with_reducible apply r_ixL); exact rfl)
  | ((with_reducible apply r_ixO); walk_at "hp"; exact rfl)
  | with_reducible refine b_lenT ?_
  | with_reducible refine b_lenL ?_
  | ((with_reducible apply b_lenO); walk_at "hp")
  | with_reducible refine b_tupleL ?_
  | with_reducible refine b_listL ?_
  | with_reducible refine b_listT ?_
  | with_reducible refine b_intI ?_
  | with_reducible refine b_intB ?_
  | with_reducible refine e_by ?_
  | with_reducible refine e_fAdd ?_
  | with_reducible refine e_lrg1 ?_
  | with_reducible refine e_lrg2 ?_
  | with_reducible refine e_sl ?_
  | with_reducible refine e_no ?_
  | with_reducible refine e_part ?_
  | with_reducible refine k_part ?_
  | with_reducible refine r_slL ?_
  | with_reducible refine r_slT ?_
  | with_reducible refine e_wSeq ?_
  | with_reducible refine k_seqL ?_
  | with_reducible refine k_seqT ?_
  | ((with_reducible apply k_seqO); walk_at "hp")
  | with_reducible refine e_wRg1 ?_
  | with_reducible refine e_fLc ?_
  | with_reducible refine e_rt ?_
  | with_reducible refine e_nx ?_
  | with_reducible refine e_forG ?_
  | with_reducible refine k_forGT ?_
  | with_reducible refine k_forGL ?_
  | with_reducible refine e_fLcG ?_
  | with_reducible refine k_lcGT ?_
  | with_reducible refine k_lcGL ?_
  | with_reducible refine e_tupO ?_
  | with_reducible refine k_tupO rfl ?_
  | with_reducible refine e_lstO ?_
  | with_reducible refine k_lstO rfl ?_
  | with_reducible refine e_unp ?_
  | with_reducible refine e_retN ?_
  | rw [put_put])
local macro_rules | `(tactic| walk_at "dl") => `(tactic| repeat walk_at "dl1")
/-! ### draws -/
def Fd (sc : List Int) (C : Int) (o : MO) : Prop := ∃ i p c : Int, o = .lst [.list (sc.map PyData.int), .int i, .int p, .int c] ∧ 0 ≤ i ∧ 0 ≤ c ∧ c ≤ C
theorem Fd.up {sc : List Int} {C C' : Int} {o : MO} (f : Fd sc C o) (h : C ≤ C') : Fd sc C' o := by
  obtain ⟨i, p, c, e, a, b, d⟩ := f
  exact ⟨i, p, c, e, a, b, by omega⟩
theorem fmod_in {i m : Int} (h : 1 ≤ m) : 0 ≤ i.fmod m ∧ i.fmod m < m := ⟨Int.fmod_nonneg_of_pos i (by omega), Int.fmod_lt_of_pos i (by omega)⟩
theorem shaped_ints (ns : List Int) : SeqAt.shaped (.list (ns.map PyData.int)) = true := shaped_ok (n := 1) (by decide) (by simp [dOk])
theorem at_get {xs : List PyData} {j : Int} (h0 : 0 ≤ j) (h1 : j < xs.length) : ∃ d, atI xs j = some d ∧ d ∈ xs := by
  have hl : j.toNat < xs.length := by omega
  refine ⟨xs[j.toNat], ?_, List.getElem_mem hl⟩
  unfold atI ixN
  rw [if_pos h0, if_pos h1]
  exact List.getElem?_eq_getElem hl
theorem at_ints {ns : List Int} {j : Int} (h0 : 0 ≤ j) (h1 : j < ns.length) : ∃ x, atI (ns.map PyData.int) j = some (.int x) := by
  obtain ⟨d, e, hd⟩ := at_get (xs := ns.map PyData.int) h0 (by rw [List.length_map]; exact h1)
  obtain ⟨x, _, rfl⟩ := List.mem_map.mp hd
  exact ⟨x, e⟩
/-! ### draws by a dict -/
theorem r_isB {a b : Bool} {h : MH} {Q : DK} (k : Q (.d (.bool (decide (a = b)))) h) : rdIsB (.d (.bool a)) (.d (.bool b)) h Q := k
theorem r_notB {a b : Bool} {h : MH} {Q : DK} (k : Q (.d (.bool (!decide (a = b)))) h) : rdNotB (.d (.bool a)) (.d (.bool b)) h Q := k
def fdL (sc : List Int) (i p c : Int) : List (Key × SV) := [(.inr "cells", .d (.list (sc.map PyData.int))), (.inr "at", .d (.int i)), (.inr "left", .d (.int p)), (.inr "turn", .d (.int c))]
def FdD (sc : List Int) (C : Int) (o : MO) : Prop := ∃ i p c : Int, o = .dct (fdL sc i p c) ∧ 0 ≤ i ∧ 0 ≤ c ∧ c ≤ C
theorem FdD.up {sc : List Int} {C C' : Int} {o : MO} (f : FdD sc C o) (h : C ≤ C') : FdD sc C' o := by
  obtain ⟨i, p, c, e, a, b, d⟩ := f
  exact ⟨i, p, c, e, a, b, by omega⟩
section
variable {sc : List Int} {i p c j : Int}
theorem fv_cells : valS (fdL sc i p c) (.inr "cells") = some (.d (.list (sc.map PyData.int))) := rfl
theorem fv_at : valS (fdL sc i p c) (.inr "at") = some (.d (.int i)) := rfl
theorem fv_left : valS (fdL sc i p c) (.inr "left") = some (.d (.int p)) := rfl
theorem fv_turn : valS (fdL sc i p c) (.inr "turn") = some (.d (.int c)) := rfl
theorem fp_at : putS (fdL sc i p c) (.inr "at") (.d (.int j)) = fdL sc j p c := rfl
theorem fp_left : putS (fdL sc i p c) (.inr "left") (.d (.int j)) = fdL sc i j c := rfl
theorem fp_turn : putS (fdL sc i p c) (.inr "turn") (.d (.int j)) = fdL sc i p j := rfl
end
local macro_rules | `(tactic| walk_at "fd1") => `(tactic| first
  | walk_at "dl1"
  | ((with_reducible apply r_ixD); walk_at "hp"; exact rfl; (first | exact fv_cells | exact fv_at | exact fv_left | exact fv_turn))
  | ((with_reducible apply k_setD); walk_at "hp"; exact rfl; (show (4 : Nat) < 16777216; decide); (first | rw [fp_at] | rw [fp_left] | rw [fp_turn])))
local macro_rules | `(tactic| walk_at "fd") => `(tactic| repeat walk_at "fd1")
theorem fd_some {h : MH} {a : Addr} {o : MO} (ha : h a = some o) : (h a).isSome = true := by rw [ha]; rfl
theorem ne_new {h : MH} {a p : Addr} {o : MO} (ha : h a = some o) (hp : h p = none) : p ≠ a := fun e => by rw [e, ha] at hp; cases hp
theorem seq_ix {v : Int} {n : Nat} (h0 : 0 ≤ v) (h1 : v < n) : seqIndex? v n = some v.toNat := by
  show (if (decide ((0 : Int) ≤ (if v < 0 then v + n else v)) && decide ((if v < 0 then v + n else v) < (n : Int))) = true then some (if v < 0 then v + n else v).toNat else none) = some v.toNat
  have e : (if v < 0 then v + n else v) = v := if_neg (by omega)
  rw [e, if_pos (by rw [Bool.and_eq_true]; exact ⟨decide_eq_true h0, decide_eq_true h1⟩)]
/-! ### fates -/
inductive Fate where
  | live
  | gone
  | done (i : Int)
def Fate.enc : Fate → PyData
  | .live => .tuple [.str "live"]
  | .gone => .tuple [.str "gone"]
  | .done i => .tuple [.str "done", .int i]
def Fate.num : Fate → Option Int
  | .done i => some i
  | _ => none
def nums (fs : List Fate) : List Int := fs.filterMap Fate.num
def rgI (m : Int) : List Int := (List.range m.toNat).map fun i : Nat => (i : Int)
def upI (n : Nat) : List Int := (List.range n).map fun i : Nat => (i : Int) + 1
theorem rg0 (m : Int) : rgD 0 m = (rgI m).map PyData.int := by
  unfold rgD rgI
  rw [List.map_map, show m - 0 = m by omega]
  refine List.map_congr_left fun i _ => ?_
  show PyData.int (0 + (i : Int)) = PyData.int i
  rw [Int.zero_add]
theorem rgI_len (m : Int) : (rgI m).length = m.toNat := by simp [rgI]
theorem mem_rgI {m x : Int} (h : x ∈ rgI m) : 0 ≤ x ∧ x < m := by
  obtain ⟨i, hi, rfl⟩ := List.mem_map.mp h
  have := List.mem_range.mp hi
  omega
theorem map_cons_inv {α β : Type} {f : α → β} {d : β} {r : List β} {l : List α} (e : d :: r = l.map f) : ∃ x l', l = x :: l' ∧ d = f x ∧ r = l'.map f := by
  cases l with
  | nil => cases e
  | cons x l' =>
    rw [List.map_cons] at e
    injection e with e1 e2
    exact ⟨x, l', rfl, e1, e2⟩
theorem eqv_int (i j : Int) : PyData.eqv (.int i) (.int j) = decide (i = j) := by simp only [PyData.eqv]; by_cases q : i = j <;> simp [q]
theorem at_nat {xs : List PyData} {n : Nat} {d : PyData} (e : xs[n]? = some d) : atI xs (n : Int) = some d := by
  have hl : n < xs.length := (List.getElem?_eq_some_iff.mp e).1
  unfold atI ixN
  rw [if_pos (by omega), if_pos (by omega)]
  exact e
/-! ### versions, stands -/
structure Ver where
  place : Int
  row : Int
  vals : List Int
  maker : Int
  ender : Option Int
  root : Int
def optE : Option Int → PyData
  | none => .none
  | some i => .int i
abbrev Ver.enc (v : Ver) : PyData := .tuple [.int v.place, .int v.row, .tuple (v.vals.map PyData.int), .int v.maker, optE v.ender, .int v.root]
structure Stand where
  cols : Int
  vers : List Ver
  fates : List Fate
  views : List Int
abbrev Stand.enc (s : Stand) : PyData := .tuple [.int s.cols, .tuple (s.vers.map Ver.enc), .tuple (s.fates.map Fate.enc), .tuple (s.views.map PyData.int)]
/-- a version as drawn: n columns, m writers, rows below r -/
structure VerOk (n m r : Int) (v : Ver) : Prop where
  place : 0 ≤ v.place
  row : 0 ≤ v.row ∧ v.row < r
  cols : v.vals.length = n.toNat
  vals : ∀ x ∈ v.vals, -999 ≤ x ∧ x ≤ 999
  maker : 0 ≤ v.maker ∧ v.maker < m
  ender : ∀ i, v.ender = some i → 0 ≤ i ∧ i < m
  root : 0 ≤ v.root ∧ v.root ≤ v.place
structure StandOk (s : Stand) : Prop where
  cols : 1 ≤ s.cols ∧ s.cols ≤ 3
  many : s.fates.length ≤ 20
  size : s.vers.length ≤ 40
  vers : ∀ v ∈ s.vers, VerOk s.cols s.fates.length 99 v
  rise : s.vers.Pairwise fun v u => v.place < u.place
  far : ∀ v ∈ s.vers, v.place ≤ 200
  nums : (nums s.fates).Perm (upI (nums s.fates).length)
  views : s.views.length = s.fates.length
  view : ∀ x ∈ s.views, 0 ≤ x ∧ x ≤ (DL.G.nums s.fates).length
/-! ### who is done, what is seen -/
/-- o is done within the view -/
def doneBy (fs : List Fate) (o : Option Int) (view : Int) : Bool := match o with
  | none => false
  | some i => match fs[i.toNat]? with
    | some (.done n) => decide (n ≤ view)
    | _ => false
section
variable {h : MH} {Q : DK} {E : DXK} {c0 v0 w0 : PyData} {fs : List Fate} {view : Int}
/-- a comprehension over encoded things -/
theorem lc_enc {α : Type} {enc out : α → PyData} {g : Tg} {tt : DTT} {te : DTE} {σ : DSt} {QL : List PyData → MH → Prop} (p : α → Bool) {l : List α}
    (step : ∀ v ∈ l, ∃ σ1, bindT g (.d (enc v)) σ = some σ1 ∧ (∀ K : Bool → MH → Prop, K (p v) h → tt σ1 h K) ∧ (p v = true → ∀ K : DK, K (.d (out v)) h → te σ1 h K)) (fin : QL ((l.filter p).map out) h) : lcL g tt te σ (l.map enc) [] h QL := by
  refine lc_inv (fun r acc h' => ∃ l1 l2 : List α, l = l1 ++ l2 ∧ r = l2.map enc ∧ acc = (l1.filter p).map out ∧ h' = h) ?_ ?_ _ [] h ⟨[], l, rfl, rfl, rfl, rfl⟩
  · rintro d r acc h' K ⟨l1, l2, e, er, rfl, rfl⟩ hK
    obtain ⟨v, l2', rfl, rfl, rfl⟩ := map_cons_inv er
    obtain ⟨σ1, e1, t1, t2⟩ := step v (by rw [e]; simp)
    refine ⟨σ1, e1, t1 _ ?_⟩
    refine k_lc (fun q => t2 q _ ?_) fun q => ?_
    · exact k_lcE (hK _ _ ⟨l1 ++ [v], l2', by rw [e]; simp, rfl, by rw [List.filter_append, List.map_append]; simp [q], rfl⟩)
    · exact hK _ _ ⟨l1 ++ [v], l2', by rw [e]; simp, rfl, by rw [List.filter_append, List.map_append]; simp [q], rfl⟩
  · rintro acc h' ⟨l1, l2, e, er, rfl, rfl⟩
    have e0 : l2 = [] := by
      cases l2 with
      | nil => rfl
      | cons _ _ => cases er
    subst e0
    rw [List.append_nil] at e
    subst e
    exact fin
end

/-! ### seen -/
section
variable {h : MH} {Q : DK} {E : DXK} {c0 v0 w0 : PyData} {fs : List Fate} {view : Int}
end

/-! ### small things: their text is short -/
theorem sOk_int {n : Nat} {i : Int} (h : -(10 ^ 19) ≤ i ∧ i ≤ 10 ^ 19) : sOk n (.int i) = true := by
  have z : i.natAbs < 10 ^ 20 := by omega
  cases n <;> simpa [sOk] using z
theorem sOk_none {n : Nat} : sOk n .none = true := by cases n <;> rfl
theorem sOk_tup {n : Nat} {xs : List PyData} (h : ∀ x ∈ xs, sOk n x = true) : sOk (n + 1) (.tuple xs) = true := by
  simp only [sOk]
  exact List.all_eq_true.mpr h
theorem sOk_lst {n : Nat} {xs : List PyData} (h : ∀ x ∈ xs, sOk n x = true) : sOk (n + 1) (.list xs) = true := by
  simp only [sOk]
  exact List.all_eq_true.mpr h
theorem sOk_ints {n : Nat} {xs : List Int} (h : ∀ x ∈ xs, -(10 ^ 19) ≤ x ∧ x ≤ 10 ^ 19) : ∀ x ∈ xs.map PyData.int, sOk n x = true := fun d hd => by
  obtain ⟨x, hx, rfl⟩ := List.mem_map.mp hd
  exact sOk_int (h x hx)
theorem nodes_ints {n : Nat} (xs : List Int) : ((xs.map PyData.int).map (nodes n)).sum = xs.length := by
  induction xs with
  | nil => rfl
  | cons x xs ih =>
    simp only [List.map_cons, List.sum_cons, List.length_cons, ih]
    cases n <;> (simp only [nodes]; omega)
theorem sOk_up : ∀ (n m : Nat) (d : PyData), n ≤ m → sOk n d = true → sOk m d = true
  | _, m, .none, _, _ => by cases m <;> rfl
  | _, m, .bool _, _, _ => by cases m <;> rfl
  | n, m, .int _, _, h => by cases n <;> cases m <;> simpa [sOk] using h
  | n, m, .str x, _, h => by cases n <;> cases m <;> simpa [sOk] using h
  | n + 1, m + 1, .list xs, hl, h => by
    have z : ∀ x ∈ xs, sOk n x = true := List.all_eq_true.mp (by simpa [sOk] using h)
    simp only [sOk]
    exact List.all_eq_true.mpr fun x hx => sOk_up n m x (by omega) (z x hx)
  | n + 1, m + 1, .tuple xs, hl, h => by
    have z : ∀ x ∈ xs, sOk n x = true := List.all_eq_true.mp (by simpa [sOk] using h)
    simp only [sOk]
    exact List.all_eq_true.mpr fun x hx => sOk_up n m x (by omega) (z x hx)
  | n + 1, 0, .list _, hl, _ => by omega
  | n + 1, 0, .tuple _, hl, _ => by omega
  | 0, _, .list _, _, h => by simp [sOk] at h
  | 0, _, .tuple _, _, h => by simp [sOk] at h
  | n, _, .dict _, _, h => by cases n <;> simp [sOk] at h
theorem nodes_up : ∀ (n m : Nat) (d : PyData), n ≤ m → sOk n d = true → nodes m d = nodes n d
  | n, m, .none, _, _ => by cases n <;> cases m <;> rfl
  | n, m, .bool _, _, _ => by cases n <;> cases m <;> rfl
  | n, m, .int _, _, h => by cases n <;> cases m <;> rfl
  | n, m, .str x, _, h => by cases n <;> cases m <;> rfl
  | n + 1, m + 1, .list xs, hl, h => by
    have z : ∀ x ∈ xs, sOk n x = true := List.all_eq_true.mp (by simpa [sOk] using h)
    simp only [nodes]
    rw [List.map_congr_left fun x hx => nodes_up n m x (by omega) (z x hx)]
  | n + 1, m + 1, .tuple xs, hl, h => by
    have z : ∀ x ∈ xs, sOk n x = true := List.all_eq_true.mp (by simpa [sOk] using h)
    simp only [nodes]
    rw [List.map_congr_left fun x hx => nodes_up n m x (by omega) (z x hx)]
  | n + 1, 0, .list _, hl, _ => by omega
  | n + 1, 0, .tuple _, hl, _ => by omega
  | 0, _, .list _, _, h => by simp [sOk] at h
  | 0, _, .tuple _, _, h => by simp [sOk] at h
  | n, _, .dict _, _, h => by cases n <;> simp [sOk] at h
/-- a version in its bounds -/
structure VerIn (v : Ver) : Prop where
  a : -(10 ^ 19) ≤ v.place ∧ v.place ≤ 10 ^ 19
  b : -(10 ^ 19) ≤ v.row ∧ v.row ≤ 10 ^ 19
  c : ∀ x ∈ v.vals, -(10 ^ 19) ≤ x ∧ x ≤ 10 ^ 19
  d : -(10 ^ 19) ≤ v.maker ∧ v.maker ≤ 10 ^ 19
  e : ∀ i, v.ender = some i → -(10 ^ 19) ≤ i ∧ i ≤ 10 ^ 19
  f : -(10 ^ 19) ≤ v.root ∧ v.root ≤ 10 ^ 19
  n : v.vals.length ≤ 10
theorem VerIn.sOk {v : Ver} (k : VerIn v) : DL.sOk 2 v.enc = true := sOk_tup fun x hx => by
  simp only [List.mem_cons, List.not_mem_nil, or_false] at hx
  rcases hx with rfl | rfl | rfl | rfl | rfl | rfl
  · exact sOk_int k.a
  · exact sOk_int k.b
  · exact sOk_tup (sOk_ints k.c)
  · exact sOk_int k.d
  · cases q : v.ender with
    | none => exact sOk_none
    | some i => exact sOk_int (k.e i q)
  · exact sOk_int k.f
theorem nodes_int {n : Nat} {i : Int} : nodes n (.int i) = 1 := by cases n <;> rfl
theorem nodes_opt {n : Nat} {o : Option Int} : nodes n (optE o) = 1 := by cases o <;> cases n <;> rfl
theorem VerIn.nodes {v : Ver} (k : VerIn v) : DL.nodes 2 v.enc ≤ 17 := by
  have e : DL.nodes 2 v.enc = 1 + (DL.nodes 1 (.int v.place) + (DL.nodes 1 (.int v.row) + ((1 + ((v.vals.map PyData.int).map (DL.nodes 0)).sum) + (DL.nodes 1 (.int v.maker) + (DL.nodes 1 (optE v.ender) + (DL.nodes 1 (.int v.root) + 0)))))) := rfl
  have := k.n
  rw [e, nodes_int, nodes_int, nodes_int, nodes_int, nodes_opt, nodes_ints]
  omega
theorem StandOk.verIn {S : Stand} (k : StandOk S) : ∀ v ∈ S.vers, VerIn v := fun v hv => by
  have o := k.vers v hv
  have far := k.far v hv
  have := o.place
  have := o.row
  have := o.maker
  have := o.root
  have := k.many
  have := k.cols
  exact ⟨by omega, by omega, fun x hx => by have := o.vals x hx; omega, by omega, fun i hi => by have := o.ender i hi; omega, by omega, by rw [o.cols]; omega⟩
theorem upI_in {n : Nat} {x : Int} (h : x ∈ upI n) : 1 ≤ x ∧ x ≤ n := by
  obtain ⟨i, hi, rfl⟩ := List.mem_map.mp h
  have := List.mem_range.mp hi
  omega
theorem StandOk.numIn {S : Stand} (k : StandOk S) : ∀ f ∈ S.fates, ∀ i, f.num = some i → 1 ≤ i ∧ i ≤ 20 := fun f hf i hi => by
  have m : i ∈ DL.G.nums S.fates := List.mem_filterMap.mpr ⟨f, hf, hi⟩
  have z := upI_in (k.nums.mem_iff.mp m)
  have hn : (DL.G.nums S.fates).length ≤ S.fates.length := List.length_filterMap_le _ _
  have := k.many
  omega
theorem fate_small {f : Fate} (h : ∀ i, f.num = some i → 1 ≤ i ∧ i ≤ 10 ^ 19) : sOk 1 f.enc = true ∧ nodes 1 f.enc ≤ 3 := by
  cases f with
  | live => exact ⟨by decide +kernel, by decide +kernel⟩
  | gone => exact ⟨by decide +kernel, by decide +kernel⟩
  | done i =>
    have := h i rfl
    refine ⟨sOk_tup fun x hx => ?_, ?_⟩
    · simp only [List.mem_cons, List.not_mem_nil, or_false] at hx
      rcases hx with rfl | rfl
      · decide +kernel
      · exact sOk_int (by omega)
    · show 1 + (nodes 0 (.str "done") + (nodes 0 (.int i) + 0)) ≤ 3
      rw [nodes_int]
      show 1 + (1 + (1 + 0)) ≤ 3
      omega
theorem StandOk.repr {S : Stand} (k : StandOk S) : reprOk S.enc := by
  have hn : (DL.G.nums S.fates).length ≤ S.fates.length := List.length_filterMap_le _ _
  have hm := k.many
  have hf : ∀ x ∈ S.fates.map Fate.enc, sOk 1 x = true ∧ nodes 1 x ≤ 3 := fun x hx => by
    obtain ⟨f, hf, rfl⟩ := List.mem_map.mp hx
    exact fate_small fun i hi => by have := k.numIn f hf i hi; omega
  refine reprOk_of (n := 5) (by decide) (sOk_tup fun x hx => ?_) ?_
  · simp only [List.mem_cons, List.not_mem_nil, or_false] at hx
    rcases hx with rfl | rfl | rfl | rfl
    · have := k.cols
      exact sOk_int (by omega)
    · exact sOk_tup fun x hx => by
        obtain ⟨v, hv, rfl⟩ := List.mem_map.mp hx
        exact sOk_up 2 3 _ (by decide) (k.verIn v hv).sOk
    · exact sOk_tup fun x hx => sOk_up 1 3 _ (by decide) (hf x hx).1
    · exact sOk_tup (sOk_ints fun x hx => by have := k.view x hx; omega)
  · have e : nodes 5 S.enc = 1 + (nodes 4 (.int S.cols) + ((1 + ((S.vers.map Ver.enc).map (nodes 3)).sum) + ((1 + ((S.fates.map Fate.enc).map (nodes 3)).sum) + ((1 + ((S.views.map PyData.int).map (nodes 3)).sum) + 0)))) := rfl
    have z1 := nodes_le (n := 3) (c := 17) (xs := S.vers.map Ver.enc) fun x hx => by
      obtain ⟨v, hv, rfl⟩ := List.mem_map.mp hx
      rw [nodes_up 2 3 _ (by decide) (k.verIn v hv).sOk]
      exact (k.verIn v hv).nodes
    have z2 := nodes_le (n := 3) (c := 3) (xs := S.fates.map Fate.enc) fun x hx => by
      rw [nodes_up 1 3 _ (by decide) (hf x hx).1]
      exact (hf x hx).2
    have z3 := k.views
    have z4 := k.size
    rw [List.length_map] at z1 z2
    rw [e, nodes_int, nodes_ints]
    omega

/-! ### the law's own look -/
section
variable {h : MH} {Q : DK} {E : DXK} {c0 v0 w0 : PyData} {fs : List Fate} {vers : List Ver}
/-- o is on for the writer wr at the view -/
def isOn (fs : List Fate) (o wr : Option Int) (view : Int) : Bool := match o with
  | none => false
  | some i => decide (wr = some i) || doneBy fs o view
def onV (fs : List Fate) (wr : Option Int) (view : Int) (v : Ver) : Bool := isOn fs (some v.maker) wr view && !isOn fs v.ender wr view
end

/-! ### .. all that is seen -/
section
variable {h : MH} {Q : DK} {E : DXK} {c0 v0 w0 : PyData} {fs : List Fate} {vers : List Ver}
end

/-! ### own errors: steps of readings -/
def raiseK (E : DXS) (n f : Str) (σ : DSt) : List SV → MH → Prop := fun xs h1 => match fzs xs h1 with
  | some ([d], h2) => E ⟨n, [(f, d)]⟩ σ h2
  | _ => False
theorem e_raise {E : DXS} {n f : Str} {t : DTA} {D : DEnds} {σ : DSt} {h : MH} (k : t σ h (raiseK E n f σ)) : dRaise1 E n f t D σ h := k
theorem k_raise {E : DXS} {n f : Str} {σ : DSt} {d : PyData} {h : MH} (k : E ⟨n, [(f, d)]⟩ σ h) : raiseK E n f σ [.d d] h := k
theorem restrX_self {h : MH} : restrX h h = h := by
  funext b
  unfold restrX
  cases q : h b with
  | none => rfl
  | some o => rfl
theorem e_isX {kt : Str → Str → Option Bool} {i : Nat} {a : Addr} {y : DExc} {n : Str} {σ : DSt} {h : MH} {Q : DK} {b : Bool} (e : slot σ i = some (.own a)) (e1 : kt y.cls n = some b) (k : Q (.d (.bool b)) h) : dIsX kt i a y n σ h Q := ⟨e, by rw [e1]; exact k⟩
theorem e_isXT {kt : Str → Str → Option Bool} {i : Nat} {a : Addr} {y : DExc} {n : Str} {ns : List Str} {σ : DSt} {h : MH} {Q : DK} {b : Bool} (e : slot σ i = some (.own a)) (e0 : (kt y.cls n).isSome = true) (l : ns.length + 1 ≤ 100) (e1 : anyK kt y.cls (n :: ns) = some b) (k : Q (.d (.bool b)) h) : dIsXT kt i a y n ns σ h Q :=
  ⟨e, e0, by rw [sizeLine_eq]; omega, by rw [e1]; exact k⟩
theorem e_xf {xt : Str → Str → Bool} {i : Nat} {a : Addr} {y : DExc} {f : Str} {σ : DSt} {h : MH} {Q : DK} {d : PyData} (e : slot σ i = some (.own a)) (e0 : xt y.cls f = true) (e1 : y.fs.lookup f = some d) (k : Q (.d d) h) : dXf xt i a y f σ h Q := ⟨e, e0, by rw [e1]; exact k⟩
/-! ### writers -/
/-- the error that tells a writer that is not there -/
abbrev noW (w : Int) : DExc := ⟨"NoWriter", [("number", .int w)]⟩
def inR (n : Nat) (w : Int) : Bool := decide (0 ≤ w) && decide (w < n)
def viewAt (vw : List Int) (w : Int) : Int := (vw[w.toNat]?).getD 0
section
variable {h : MH} {Q : DK} {E : DXK} {c0 v0 w0 : PyData} {fs : List Fate} {vw : List Int} {w : Int}
end

/-! ### more -/
theorem b_reprT {Q : DK} {h : MH} {d : PyData} {t : Str} (c : reprOk d) (e : d.shown = t) (k : Q (.d (.str t)) h) : rdRepr [.d d] h Q := by
  subst e
  exact b_repr c k
section
variable {h : MH} {Q : DK} {E : DXK} {c0 v0 w0 : PyData} {fs : List Fate} {vw : List Int} {w : Int}
end
theorem at_zero {d : PyData} {r : List PyData} : atI (d :: r) 0 = some d := by
  unfold atI ixN
  rw [if_pos (by omega), if_pos (by simp)]
  rfl
section
variable {h : MH} {Q : DK} {E : DXK} {c0 v0 w0 : PyData} {fs : List Fate} {vers : List Ver}
end
/-! tuples as targets -/
section
variable {D : DEnds} {σ : DSt} {h : MH}
theorem k_tg2 {i' j' : Nat} {a b : PyData} (k : D.nx ((σ.set i' (some (.d a))).set j' (some (.d b))) h) : asgK (.tup [i', j']) D σ (.d (.tuple [a, b])) h := k_tg rfl k
theorem bind2 {i' j' : Nat} {a b : PyData} : bindT (.tup [i', j']) (.d (.tuple [a, b])) σ = some ((σ.set i' (some (.d a))).set j' (some (.d b))) := rfl
theorem k_tg3 {i' j' l' : Nat} {a b c : PyData} (k : D.nx (((σ.set i' (some (.d a))).set j' (some (.d b))).set l' (some (.d c))) h) : asgK (.tup [i', j', l']) D σ (.d (.tuple [a, b, c])) h := k_tg rfl k
theorem k_tg4 {i' j' l' m' : Nat} {a b c d : PyData} (k : D.nx ((((σ.set i' (some (.d a))).set j' (some (.d b))).set l' (some (.d c))).set m' (some (.d d))) h) : asgK (.tup [i', j', l', m']) D σ (.d (.tuple [a, b, c, d])) h := k_tg rfl k
theorem k_tg5 {i' j' l' m' n' : Nat} {a b c d e : PyData} (k : D.nx (((((σ.set i' (some (.d a))).set j' (some (.d b))).set l' (some (.d c))).set m' (some (.d d))).set n' (some (.d e))) h) : asgK (.tup [i', j', l', m', n']) D σ (.d (.tuple [a, b, c, d, e])) h := k_tg rfl k
theorem k_tg6 {i' j' l' m' n' o' : Nat} {a b c d e f : PyData} (k : D.nx ((((((σ.set i' (some (.d a))).set j' (some (.d b))).set l' (some (.d c))).set m' (some (.d d))).set n' (some (.d e))).set o' (some (.d f))) h) : asgK (.tup [i', j', l', m', n', o']) D σ (.d (.tuple [a, b, c, d, e, f])) h := k_tg rfl k
end
theorem r_mulL {xs : List PyData} {j : Int} {h : MH} {Q : DK} (c : 0 ≤ j ∧ j < 1000 ∧ xs.length * j.toNat ≤ 16777216) (k : Q (.d (.list (List.replicate j.toNat xs).flatten)) h) : rdMul (.d (.list xs)) (.d (.int j)) h Q := ⟨by omega, by omega, by rw [sizeLine_eq]; exact c.2.2, k⟩

/-! ### small data, composed -/
def Sml (n c : Nat) (d : PyData) : Prop := sOk n d = true ∧ nodes n d ≤ c
def SmlL (n c : Nat) (xs : List PyData) : Prop := (∀ x ∈ xs, sOk n x = true) ∧ (xs.map (nodes n)).sum ≤ c
theorem Sml.repr {n c : Nat} {d : PyData} (h : Sml n c d) (hn : n ≤ 32 := by decide) (hc : c ≤ 600000 := by first | decide | omega) : reprOk d := reprOk_of hn h.1 (by have := h.2; omega)
theorem Sml.shaped {n c : Nat} {d : PyData} (h : Sml n c d) (hn : n ≤ 64 := by decide) : SeqAt.shaped d = true := shaped_ok hn (sOk_dOk n d h.1)
theorem Sml.up {n m c c' : Nat} {d : PyData} (h : Sml n c d) (hn : n ≤ m := by decide) (hc : c ≤ c' := by first | decide | omega) : Sml m c' d := ⟨sOk_up n m d hn h.1, by rw [nodes_up n m d hn h.1]; exact Nat.le_trans h.2 hc⟩
theorem SmlL.up {n m c c' : Nat} {d : List PyData} (h : SmlL n c d) (hn : n ≤ m := by decide) (hc : c ≤ c' := by first | decide | omega) : SmlL m c' d := ⟨fun x hx => sOk_up n m x hn (h.1 x hx), by
  rw [List.map_congr_left fun x hx => nodes_up n m x hn (h.1 x hx)]
  exact Nat.le_trans h.2 hc⟩
theorem SmlL.nil {n : Nat} : SmlL n 0 [] := ⟨fun x hx => (by cases hx), by simp⟩
theorem SmlL.cons {n a b : Nat} {x : PyData} {xs : List PyData} (h : Sml n a x) (t : SmlL n b xs) : SmlL n (a + b) (x :: xs) := ⟨fun y hy => by
  rcases List.mem_cons.mp hy with rfl | q
  · exact h.1
  · exact t.1 y q, by rw [List.map_cons, List.sum_cons]; exact Nat.add_le_add h.2 t.2⟩
theorem SmlL.app {n a b : Nat} {xs ys : List PyData} (h : SmlL n a xs) (t : SmlL n b ys) : SmlL n (a + b) (xs ++ ys) := ⟨fun y hy => by
  rcases List.mem_append.mp hy with q | q
  · exact h.1 y q
  · exact t.1 y q, by rw [List.map_append, List.sum_append]; exact Nat.add_le_add h.2 t.2⟩
theorem SmlL.all {n c k : Nat} {xs : List PyData} (h : ∀ x ∈ xs, Sml n c x) (hl : xs.length ≤ k) : SmlL n (c * k) xs := ⟨fun x hx => (h x hx).1, Nat.le_trans (nodes_le fun x hx => (h x hx).2) (Nat.mul_le_mul_left _ hl)⟩
theorem SmlL.tup {n c : Nat} {xs : List PyData} (h : SmlL n c xs) : Sml (n + 1) (c + 1) (.tuple xs) := ⟨sOk_tup h.1, by
  have e : nodes (n + 1) (.tuple xs) = 1 + (xs.map (nodes n)).sum := rfl
  rw [e]; have := h.2; omega⟩
theorem SmlL.lst {n c : Nat} {xs : List PyData} (h : SmlL n c xs) : Sml (n + 1) (c + 1) (.list xs) := ⟨sOk_lst h.1, by
  have e : nodes (n + 1) (.list xs) = 1 + (xs.map (nodes n)).sum := rfl
  rw [e]; have := h.2; omega⟩
theorem Sml.none {n : Nat} : Sml n 1 .none := ⟨sOk_none, by cases n <;> exact Nat.le_refl 1⟩
theorem Sml.bool {n : Nat} {b : Bool} : Sml n 1 (.bool b) := ⟨by cases n <;> rfl, by cases n <;> exact Nat.le_refl 1⟩
theorem Sml.int {n : Nat} {i : Int} (h : -(10 ^ 19) ≤ i ∧ i ≤ 10 ^ 19) : Sml n 1 (.int i) := ⟨sOk_int h, by rw [nodes_int]; exact Nat.le_refl 1⟩
theorem Sml.str {n : Nat} {x : Str} (h : (PySem.PyData.strOk x && decide ((reprText x).length ≤ 24)) = true := by decide +kernel) : Sml n 1 (.str x) := ⟨by cases n <;> exact h, by cases n <;> exact Nat.le_refl 1⟩
/-! ### all that is seen -/
section
variable {h : MH} {Q : DK} {E : DXK} {c0 v0 w0 : PyData} {fs : List Fate} {vw : List Int} {vers : List Ver} {w : Int}
end
/-! ### scans -/
theorem e_callK {E : DXS} {W : DSp} {z : Shape} {t tk : DTA} {σ : DSt} {h : MH} {Q : DK} (k : t σ h fun xs h1 => tk σ h1 fun zs h2 => xs.length = z.n ∧ zs.length = z.ks.length ∧ W (xs ++ pick z.cs (z.dm.map SV.d) zs) h2 Q fun x h3 => E x σ h3) : dCallK E W z t tk σ h Q := k
section
variable {h : MH} {Q : DK} {E : DXK} {c0 v0 w0 : PyData} {fs : List Fate} {vw : List Int} {vers : List Ver} {w : Int} {σ : DSt} {QB : Bool → MH → Prop}
end

/-! ### steps: zip, enumerate, min, extend -/
section
variable {σ : DSt} {h h2 : MH} {Q : DK} {QL : List PyData → MH → Prop} {ta tb te to : DTE} {tF : DTF} {xs ys ds es : List PyData} {a : Addr} {x y : SV}
def zipK (QL : List PyData → MH → Prop) (x y : SV) (h2 : MH) : Prop := match fz1 x h2 with
  | some (.list ds, h3) => (match fz1 y h3 with
    | some (.list es, h4) => QL (zipD ds es) h4
    | _ => False)
  | some (.tuple ds, h3) => (match fz1 y h3 with
    | some (.tuple es, h4) => QL (zipD ds es) h4
    | _ => False)
  | _ => False
theorem e_wZip (k : ta σ h fun x h1 => tb σ h1 fun y h2 => zipK QL x y h2) : wZip ta tb σ h QL := k
theorem k_zipT (k : QL (zipD ds es) h) : zipK QL (.d (.tuple ds)) (.d (.tuple es)) h := k
theorem k_zipL (k : QL (zipD ds es) h) : zipK QL (.d (.list ds)) (.d (.list es)) h := k
def enumK (QL : List PyData → MH → Prop) (x : SV) (h1 : MH) : Prop := match fz1 x h1 with
  | some (.list ds, h2) => QL (enumD ds) h2
  | some (.tuple ds, h2) => QL (enumD ds) h2
  | _ => False
theorem e_wEnum (k : te σ h (enumK QL)) : wEnum te σ h QL := k
theorem k_enumT (k : QL (enumD ds) h) : enumK QL (.d (.tuple ds)) h := k
theorem k_enumL (k : QL (enumD ds) h) : enumK QL (.d (.list ds)) h := k
def minK (Q : DK) (x : SV) (h1 : MH) : Prop := match asL h1 x with
  | some ds => PySem.W.AlikeAll ds ∧ PyData.depthAll ds ≤ 60 ∧ (match ds with
    | [] => Q (.d .none) h1
    | y :: ys => Q (.d (PySem.W.minD y ys)) h1)
  | none => False
theorem e_minD (k : te σ h (minK Q)) : dMinD te σ h Q := k
def extE (Q : DK) (x : SV) (ds : List PyData) (h2 : MH) : Prop := match ownL h2 x with
  | some (a, xs) => xs.length + ds.length ≤ sizeLine ∧ Q (.d .none) (mput h2 a (.lst (xs ++ ds)))
  | none => False
def extK (tF : DTF) (σ : DSt) (Q : DK) (x : SV) (h1 : MH) : Prop := match asL h1 x with
  | some _ => tF σ h1 fun ds h2 => extE Q x ds h2
  | none => False
theorem e_ext (k : to σ h (extK tF σ Q)) : dExt to tF σ h Q := k
theorem k_ext (e : h a = some (.lst xs)) (k : tF σ h fun ds h2 => extE Q (.own a) ds h2) : extK tF σ Q (.own a) h := by
  unfold extK
  rw [asL_own e]
  exact k
theorem r_addT (c : xs.length + ys.length ≤ 16777216) (k : Q (.d (.tuple (xs ++ ys))) h) : rdAdd (.d (.tuple xs)) (.d (.tuple ys)) h Q := ⟨by rw [sizeLine_eq]; exact c, k⟩
end

/-! ### first two of a row -/
/-! ### sorted lists of numbers -/
/-! ### why -/
section
variable {h : MH} {Q : DK} {E : DXK} {c0 v0 w0 : PyData} {fs : List Fate} {vw : List Int} {w : Int}
end

/-! ### cuts -/
theorem cut_to {xs : List PyData} {n : Nat} (hn : n ≤ xs.length) : cutD xs none (some (n : Int)) = xs.take n := by
  unfold cutD
  rw [HT.sIx_nat, HT.sIx_none, Nat.min_eq_left hn]
  simp
/-! ### papers: steps -/
section
variable {h : MH} {Q : DK} {E : DXK} {σ : DSt} {D : DEnds}
def raise2K (E : DXS) (n f g : Str) (σ : DSt) : List SV → MH → Prop := fun xs h1 => match fzs xs h1 with
  | some ([d, d2], h2) => E ⟨n, [(f, d), (g, d2)]⟩ σ h2
  | _ => False
theorem e_raise2 {E : DXS} {n f g : Str} {t : DTA} (k : t σ h (raise2K E n f g σ)) : dRaise2 E n f g t D σ h := k
theorem k_raise2 {E : DXS} {n f g : Str} {d d2 : PyData} (k : E ⟨n, [(f, d), (g, d2)]⟩ σ h) : raise2K E n f g σ [.d d, .d d2] h := k
def isK (n : String) (Q : DK) : DK := fun x h1 => match asD h1 x with
  | some d => (match kitB (tyN d) n with
    | some b => Q (.d (.bool b)) h1
    | none => False)
  | none => False
theorem e_isT {te : DTE} {n : String} (k : te σ h (isK n Q)) : dIsT te n σ h Q := k
theorem k_isT {d : PyData} {n t : String} {b : Bool} (e0 : tyN d = t) (e : kitB t n = some b) (k : Q (.d (.bool b)) h) : isK n Q (.d d) h := by
  show (match kitB (tyN d) n with
    | some b => Q (.d (.bool b)) h
    | none => False)
  rw [e0, e]
  exact k
theorem r_inT {x : PyData} {ds : List PyData} (p1 : x.plain = true) (p2 : PyData.plainAll ds = true) (p3 : x.depth ≤ 60) (k : Q (.d (.bool (ds.any fun z => PyData.eqv z x))) h) : rdInT false (.d x) (.d (.tuple ds)) h Q := ⟨p1, p2, p3, k⟩
theorem r_notInT {x : PyData} {ds : List PyData} (p1 : x.plain = true) (p2 : PyData.plainAll ds = true) (p3 : x.depth ≤ 60) (k : Q (.d (.bool (!ds.any fun z => PyData.eqv z x))) h) : rdInT true (.d x) (.d (.tuple ds)) h Q := ⟨p1, p2, p3, k⟩
end
/-! ### papers of what is seen -/
section
variable {h : MH} {Q : DK} {E : DXK} {c0 v0 w0 : PyData} {fs : List Fate} {vw : List Int} {vers : List Ver} {w : Int}
end

/-! ### stands by kind -/
section
variable {h : MH} {Q : DK} {E : DXK} {σ : DSt} {D : DEnds}
end
section
variable {h : MH} {Q : DK} {E : DXK} {fs : List Fate}
end

/-! ### stands by deeds -/
section
variable {h : MH} {Q : DK} {E : DXK} {fs : List Fate} {view : Int}
end
/-- what one deed of a writer makes of the versions -/
inductive Wrote (S : Stand) (wr : Int) : List Ver → Prop where
  | put (row : Int) (vals : List Int) (hr : ∀ v ∈ S.vers, v.row < row) (h0 : 0 ≤ row ∧ row ≤ S.vers.length) (hl : vals.length = S.cols.toNat) (hb : ∀ x ∈ vals, -999 ≤ x ∧ x ≤ 999) : Wrote S wr (S.vers ++ [⟨S.vers.length, row, vals, wr, none, S.vers.length⟩])
  | strike (i : Nat) (v : Ver) (hi : S.vers[i]? = some v) (hs : onV S.fates (some wr) (viewAt S.views wr) v = true) (he : ∀ j, v.ender = some j → S.fates[j.toNat]? = some .gone) : Wrote S wr (S.vers.set i { v with ender := some wr })
  | turn (i : Nat) (v : Ver) (vals : List Int) (root : Int) (hi : S.vers[i]? = some v) (hs : onV S.fates (some wr) (viewAt S.views wr) v = true) (he : ∀ j, v.ender = some j → S.fates[j.toNat]? = some .gone)
      (hl : vals.length = S.cols.toNat) (hb : ∀ x ∈ vals, -999 ≤ x ∧ x ≤ 999) (hr : root = S.vers.length ∨ root = v.root) : Wrote S wr (S.vers.set i { v with ender := some wr } ++ [⟨S.vers.length, v.row, vals, wr, none, root⟩])
structure DeedOk (S : Stand) : Prop where
  ok : StandOk S
  at_ : ∀ i v, S.vers[i]? = some v → v.place = ((i : Nat) : Int)
  row : ∀ v ∈ S.vers, v.row < S.vers.length
local macro_rules | `(tactic| walk_at "fd1") => `(tactic| first
  | walk_at "dl1"
  | ((with_reducible apply r_ixD); walk_at "hp"; exact rfl; (first | exact fv_cells | exact fv_at | exact fv_left | exact fv_turn))
  | ((with_reducible apply k_setD); walk_at "hp"; exact rfl; (show (4 : Nat) < 16777216; decide); (first | rw [fp_at] | rw [fp_left] | rw [fp_turn])))
local macro_rules | `(tactic| walk_at "fd") => `(tactic| repeat walk_at "fd1")
section
variable {h : MH} {Q : DK} {E : DXK}
end

/-! ### stands that deeds reach -/
inductive Step (S : Stand) : Stand → Prop where
  | begin (h : S.fates.length < 20) : Step S ⟨S.cols, S.vers, S.fates ++ [.live], S.views ++ [((nums S.fates).length : Int)]⟩
  | gone (who : Nat) (h : S.fates[who]? = some .live) : Step S ⟨S.cols, S.vers, S.fates.set who .gone, S.views⟩
  | done (who : Nat) (h : S.fates[who]? = some .live) : Step S ⟨S.cols, S.vers, S.fates.set who (.done ((nums S.fates).length + 1)), S.views⟩
  | wrote (who : Nat) (h : S.fates[who]? = some .live) (hz : S.vers.length < 40) {vs : List Ver} (w : Wrote S who vs) : Step S ⟨S.cols, vs, S.fates, S.views⟩
inductive Reach (w : Int) : Stand → Prop where
  | nil : Reach w ⟨w, [], [], []⟩
  | step {S S' : Stand} (r : Reach w S) (s : Step S S') : Reach w S'
theorem numsA (a b : List Fate) : nums (a ++ b) = nums a ++ nums b := List.filterMap_append
theorem nums_set_gone : ∀ {fs : List Fate} {who : Nat}, fs[who]? = some .live → nums (fs.set who .gone) = nums fs
  | [], _, h => by cases h
  | f :: fs, 0, h => by
    simp at h
    subst h
    rfl
  | f :: fs, n + 1, h => by
    have ih := nums_set_gone (fs := fs) (who := n) (by simpa using h)
    unfold nums at ih ⊢
    rw [List.set_cons_succ, List.filterMap_cons, List.filterMap_cons, ih]
theorem nums_set_done {n : Int} : ∀ {fs : List Fate} {who : Nat}, fs[who]? = some .live → (nums (fs.set who (.done n))).Perm (n :: nums fs)
  | [], _, h => by cases h
  | f :: fs, 0, h => by
    simp at h
    subst h
    exact List.Perm.refl _
  | f :: fs, k + 1, h => by
    have ih := nums_set_done (n := n) (fs := fs) (who := k) (by simpa using h)
    unfold nums at ih ⊢
    rw [List.set_cons_succ, List.filterMap_cons, List.filterMap_cons]
    cases f.num with
    | none => exact ih
    | some i => exact (ih.cons i).trans (List.Perm.swap _ _ _)
theorem upI_succ (n : Nat) : upI (n + 1) = upI n ++ [(n : Int) + 1] := by
  unfold upI
  rw [List.range_succ, List.map_append]
  rfl
theorem wrote_len {S : Stand} {wr : Int} {vs : List Ver} (w : Wrote S wr vs) : S.vers.length ≤ vs.length ∧ vs.length ≤ S.vers.length + 1 := by
  cases w with
  | put row vals hr h0 hl hb => simp
  | strike i v hi hs he => simp
  | turn i v vals root hi hs he hl hb hr => simp
/-- what stands at a place of what a deed wrote -/
theorem wrote_at {S : Stand} {wr : Int} {vs : List Ver} (w : Wrote S wr vs) {i : Nat} {u : Ver} (e : vs[i]? = some u) :
    S.vers[i]? = some u ∨ (∃ v, S.vers[i]? = some v ∧ u = { v with ender := some wr }) ∨ (i = S.vers.length ∧ u.place = S.vers.length ∧ u.maker = wr ∧ u.ender = none ∧ u.vals.length = S.cols.toNat ∧ (∀ x ∈ u.vals, -999 ≤ x ∧ x ≤ 999) ∧
      ((0 ≤ u.row ∧ u.row ≤ S.vers.length ∧ u.root = S.vers.length) ∨ ∃ v ∈ S.vers, u.row = v.row ∧ (u.root = S.vers.length ∨ u.root = v.root))) := by
  have setA : ∀ (j : Nat) (v : Ver), S.vers[j]? = some v → (S.vers.set j { v with ender := some wr })[i]? = some u → S.vers[i]? = some u ∨ ∃ v, S.vers[i]? = some v ∧ u = { v with ender := some wr } := fun j v hj e => by
    by_cases q : j = i
    · subst q
      rw [List.getElem?_set_self (List.getElem?_eq_some_iff.mp hj).1] at e
      exact .inr ⟨v, hj, (Option.some.inj e).symm⟩
    · rw [List.getElem?_set_ne q] at e
      exact .inl e
  cases w with
  | put row vals hr h0 hl hb =>
    by_cases q : i < S.vers.length
    · rw [List.getElem?_append_left q] at e; exact .inl e
    · have hi := (List.getElem?_eq_some_iff.mp e).1
      simp at hi
      have hi2 : i = S.vers.length := by omega
      subst hi2
      rw [List.getElem?_append_right (Nat.le_refl _), Nat.sub_self] at e
      cases e
      exact .inr (.inr ⟨rfl, rfl, rfl, rfl, hl, hb, .inl ⟨h0.1, h0.2, rfl⟩⟩)
  | strike j v hj hs he =>
    rcases setA j v hj e with z | z
    · exact .inl z
    · exact .inr (.inl z)
  | turn j v vals root hj hs he hl hb hr =>
    by_cases q : i < S.vers.length
    · rw [List.getElem?_append_left (by rw [List.length_set]; exact q)] at e
      rcases setA j v hj e with z | z
      · exact .inl z
      · exact .inr (.inl z)
    · have hi := (List.getElem?_eq_some_iff.mp e).1
      simp at hi
      have hi2 : i = S.vers.length := by omega
      subst hi2
      rw [List.getElem?_append_right (by rw [List.length_set]; exact Nat.le_refl _), List.length_set, Nat.sub_self] at e
      cases e
      exact .inr (.inr ⟨rfl, rfl, rfl, rfl, hl, hb, .inr ⟨v, List.mem_of_getElem? hj, rfl, hr⟩⟩)
theorem rise_of {vs : List Ver} (h : ∀ i v, vs[i]? = some v → v.place = ((i : Nat) : Int)) : vs.Pairwise fun v u => v.place < u.place := by
  refine List.pairwise_iff_getElem.mpr fun i j hi hj hij => ?_
  rw [h i _ (List.getElem?_eq_getElem hi), h j _ (List.getElem?_eq_getElem hj)]
  omega
theorem DeedOk.step {S S' : Stand} (d : DeedOk S) (s : Step S S') : DeedOk S' := by
  have ok := d.ok
  cases s with
  | begin h =>
    have hn : nums (S.fates ++ [Fate.live]) = nums S.fates := by rw [numsA]; exact List.append_nil _
    have hl : ((S.fates ++ [Fate.live]).length : Int) = (S.fates.length : Int) + 1 := by simp
    refine ⟨⟨ok.cols, by show (S.fates ++ [Fate.live]).length ≤ 20; simp; omega, ok.size, fun v hv => ?_, ok.rise, ok.far, by show (nums (S.fates ++ [Fate.live])).Perm _; rw [hn]; exact ok.nums, by show (S.views ++ [_]).length = (S.fates ++ [_]).length; simp [ok.views], fun x hx => ?_⟩, d.at_, d.row⟩
    · have y := ok.vers v hv
      show VerOk S.cols ((S.fates ++ [Fate.live]).length : Int) 99 v
      rw [hl]
      exact ⟨y.place, y.row, y.cols, y.vals, ⟨y.maker.1, by have := y.maker.2; omega⟩, fun i q => ⟨(y.ender i q).1, by have := (y.ender i q).2; omega⟩, y.root⟩
    · show 0 ≤ x ∧ x ≤ ((nums (S.fates ++ [Fate.live])).length : Int)
      rw [hn]
      rcases List.mem_append.mp hx with z | z
      · exact ok.view x z
      · rw [List.mem_singleton.mp z]; omega
  | gone who h =>
    have hn := nums_set_gone h
    have hl : (S.fates.set who .gone).length = S.fates.length := List.length_set
    exact ⟨⟨ok.cols, by show (S.fates.set who .gone).length ≤ 20; rw [hl]; exact ok.many, ok.size, fun v hv => by show VerOk S.cols ((S.fates.set who .gone).length : Int) 99 v; rw [hl]; exact ok.vers v hv, ok.rise, ok.far, by show (nums (S.fates.set who .gone)).Perm _; rw [hn]; exact ok.nums, by show S.views.length = (S.fates.set who .gone).length; rw [hl]; exact ok.views, fun x hx => by show 0 ≤ x ∧ x ≤ ((nums (S.fates.set who .gone)).length : Int); rw [hn]; exact ok.view x hx⟩, d.at_, d.row⟩
  | done who h =>
    have hn := nums_set_done (n := (nums S.fates).length + 1) h
    have hln : (nums (S.fates.set who (.done ((nums S.fates).length + 1)))).length = (nums S.fates).length + 1 := by rw [hn.length_eq]; simp
    have hl : (S.fates.set who (.done ((nums S.fates).length + 1))).length = S.fates.length := List.length_set
    refine ⟨⟨ok.cols, by show (S.fates.set who _).length ≤ 20; rw [hl]; exact ok.many, ok.size, fun v hv => by show VerOk S.cols ((S.fates.set who _).length : Int) 99 v; rw [hl]; exact ok.vers v hv, ok.rise, ok.far, ?_, by show S.views.length = (S.fates.set who _).length; rw [hl]; exact ok.views, fun x hx => ?_⟩, d.at_, d.row⟩
    · show (nums (S.fates.set who (.done ((nums S.fates).length + 1)))).Perm (upI (nums (S.fates.set who (.done ((nums S.fates).length + 1)))).length)
      rw [hln, upI_succ]
      exact hn.trans ((List.Perm.cons _ ok.nums).trans (List.perm_append_comm (l₁ := [_])))
    · have := ok.view x hx
      show 0 ≤ x ∧ x ≤ ((nums (S.fates.set who (.done ((nums S.fates).length + 1)))).length : Int)
      rw [hln]
      exact ⟨this.1, by push_cast; omega⟩
  | @wrote who h hz vs w =>
    have hlen := wrote_len w
    have hwho : who < S.fates.length := (List.getElem?_eq_some_iff.mp h).1
    have key : ∀ i u, vs[i]? = some u → VerOk S.cols S.fates.length 99 u ∧ u.place = ((i : Nat) : Int) ∧ u.row < vs.length := fun i u e => by
      have hi := (List.getElem?_eq_some_iff.mp e).1
      have hsz := ok.size
      rcases wrote_at w e with z | ⟨v, z, rfl⟩ | ⟨rfl, z1, z2, z3, z4, z5, z6⟩
      · exact ⟨ok.vers u (List.mem_of_getElem? z), d.at_ i u z, by have := d.row u (List.mem_of_getElem? z); omega⟩
      · have y := ok.vers v (List.mem_of_getElem? z)
        refine ⟨⟨y.place, y.row, y.cols, y.vals, y.maker, fun j q => ?_, y.root⟩, d.at_ i v z, by have := d.row v (List.mem_of_getElem? z); show v.row < _; omega⟩
        cases q
        exact ⟨by omega, by omega⟩
      · rcases z6 with ⟨r1, r2, r3⟩ | ⟨v, hv, r1, r2⟩
        · exact ⟨⟨by omega, ⟨r1, by omega⟩, z4, z5, ⟨by omega, by omega⟩, fun j q => by (rw [z3] at q; cases q), ⟨by omega, by omega⟩⟩, z1, by omega⟩
        · have y := ok.vers v hv
          have hp : v.place < S.vers.length := by
            obtain ⟨j, hj, ej⟩ := List.mem_iff_getElem.mp hv
            have := d.at_ j v (by rw [List.getElem?_eq_getElem hj, ej])
            omega
          have hrow := d.row v hv
          have hrt := y.root
          have hry := y.row
          refine ⟨⟨by omega, ⟨by omega, by omega⟩, z4, z5, ⟨by omega, by omega⟩, fun j q => by (rw [z3] at q; cases q), ?_⟩, z1, by omega⟩
          rcases r2 with r2 | r2 <;> exact ⟨by omega, by omega⟩
    have mem : ∀ u ∈ vs, ∃ i, vs[i]? = some u := fun u hu => by
      obtain ⟨i, hi, e⟩ := List.mem_iff_getElem.mp hu
      exact ⟨i, by rw [List.getElem?_eq_getElem hi, e]⟩
    refine ⟨⟨ok.cols, ok.many, by show vs.length ≤ 40; omega, fun u hu => ?_, rise_of fun i u e => (key i u e).2.1, fun u hu => ?_, ok.nums, ok.views, ok.view⟩, fun i u e => (key i u e).2.1, fun u hu => ?_⟩
    · obtain ⟨i, e⟩ := mem u hu
      exact (key i u e).1
    · obtain ⟨i, e⟩ := mem u hu
      have := (key i u e).2.1
      have hi := (List.getElem?_eq_some_iff.mp e).1
      have hsz := ok.size
      omega
    · obtain ⟨i, e⟩ := mem u hu
      exact (key i u e).2.2
theorem Reach.ok {w : Int} {S : Stand} (hw : 1 ≤ w ∧ w ≤ 3) (r : Reach w S) : DeedOk S := by
  induction r with
  | nil => exact ⟨⟨hw, Nat.zero_le _, Nat.zero_le _, fun v hv => (by cases hv), List.Pairwise.nil, fun v hv => (by cases hv), List.Perm.refl _, rfl, fun x hx => (by cases hx)⟩, fun i v e => (by simp at e), fun v hv => (by cases hv)⟩
  | step r s ih => exact ih.step s
theorem Reach.cols {w : Int} {S : Stand} (r : Reach w S) : S.cols = w := by
  induction r with
  | nil => rfl
  | step r s ih => cases s <;> exact ih

/-! ### a stand drawn by deeds -/
local macro_rules | `(tactic| walk_at "fd1") => `(tactic| first
  | walk_at "dl1"
  | ((with_reducible apply r_ixD); walk_at "hp"; exact rfl; (first | exact fv_cells | exact fv_at | exact fv_left | exact fv_turn))
  | ((with_reducible apply k_setD); walk_at "hp"; exact rfl; (show (4 : Nat) < 16777216; decide); (first | rw [fp_at] | rw [fp_left] | rw [fp_turn])))
local macro_rules | `(tactic| walk_at "fd") => `(tactic| repeat walk_at "fd1")
section
variable {h : MH} {Q : DK} {E : DXK}
end

/-! ### a writer that isn't gone sees at most one version of a row -/
def Gn (fs : List Fate) (m : Int) : Prop := fs[m.toNat]? = some .gone
def LeW (fs : List Fate) (vw : List Int) (a b : Int) : Prop := a = b ∨ ∃ n, fs[a.toNat]? = some (.done n) ∧ n ≤ viewAt vw b
structure Uq (S : Stand) : Prop where
  vd : ∀ (b : Nat) (n : Int), S.fates[b]? = some (.done n) → (S.views[b]?).getD 0 < n
  ch : ∀ (i j : Nat) (v u : Ver), i < j → S.vers[i]? = some v → S.vers[j]? = some u → v.row = u.row → Gn S.fates v.maker ∨ Gn S.fates u.maker ∨ ∃ e, v.ender = some e ∧ LeW S.fates S.views e u.maker
theorem on_iffU {fs : List Fate} {i w view : Int} : isOn fs (some i) (some w) view = true ↔ w = i ∨ ∃ n, fs[i.toNat]? = some (.done n) ∧ n ≤ view := by
  show (decide ((some w : Option Int) = some i) || doneBy fs (some i) view) = true ↔ _
  rw [Bool.or_eq_true, decide_eq_true_eq, Option.some.injEq]
  refine or_congr Iff.rfl ?_
  unfold doneBy
  dsimp only
  cases q : fs[i.toNat]? with
  | none => simp
  | some f =>
    cases f with
    | live => simp
    | gone => simp
    | done n => simp
theorem onV_iffU {fs : List Fate} {w view : Int} {v : Ver} (h : onV fs (some w) view v = true) : isOn fs (some v.maker) (some w) view = true ∧ ∀ e, v.ender = some e → ¬ isOn fs (some e) (some w) view = true := by
  unfold onV at h
  rw [Bool.and_eq_true] at h
  refine ⟨h.1, fun e he z => ?_⟩
  rw [he, z] at h
  exact absurd h.2 (by decide)
theorem on_notGn {fs : List Fate} {i w view : Int} (hw : ¬ Gn fs w) (h : isOn fs (some i) (some w) view = true) : ¬ Gn fs i := fun g => by
  rcases on_iffU.mp h with e | ⟨n, e, _⟩
  · exact hw (e ▸ g)
  · unfold Gn at g
    rw [g] at e
    cases e
theorem le_on {S : Stand} (u : Uq S) {a b w : Int} (l : LeW S.fates S.views a b) (h : isOn S.fates (some b) (some w) (viewAt S.views w) = true) : isOn S.fates (some a) (some w) (viewAt S.views w) = true := by
  refine on_iffU.mpr ?_
  rcases l with e | ⟨n, e, hn⟩
  · subst e; exact on_iffU.mp h
  · refine .inr ⟨n, e, ?_⟩
    rcases on_iffU.mp h with z | ⟨m, z, hm⟩
    · rw [z]; exact hn
    · have y := u.vd _ _ z
      have y2 : viewAt S.views b < m := y
      omega
/-- two versions of one row, seen by one that isn't gone -/
theorem Uq.one {S : Stand} (u : Uq S) {w : Int} (hw : ¬ Gn S.fates w) {i j : Nat} {v x : Ver} (hij : i < j) (hi : S.vers[i]? = some v) (hj : S.vers[j]? = some x) (hr : v.row = x.row)
    (h1 : onV S.fates (some w) (viewAt S.views w) v = true) (h2 : onV S.fates (some w) (viewAt S.views w) x = true) : False := by
  obtain ⟨m1, e1⟩ := onV_iffU h1
  obtain ⟨m2, _⟩ := onV_iffU h2
  rcases u.ch i j v x hij hi hj hr with z | z | ⟨e, he, l⟩
  · exact on_notGn hw m1 z
  · exact on_notGn hw m2 z
  · exact e1 e he (le_on u l m2)
theorem gn_setU {fs : List Fate} {who : Nat} {f : Fate} (hl : fs[who]? = some .live) {m : Int} (h : Gn fs m) : Gn (fs.set who f) m := by
  unfold Gn at h ⊢
  rw [List.getElem?_set_ne]
  · exact h
  · intro e
    rw [← e, hl] at h
    cases h
theorem done_setU {fs : List Fate} {who : Nat} {f : Fate} (hl : fs[who]? = some .live) {b : Nat} {n : Int} (h : fs[b]? = some (.done n)) : (fs.set who f)[b]? = some (.done n) := by
  rw [List.getElem?_set_ne]
  · exact h
  · intro e
    rw [← e, hl] at h
    cases h
theorem Uq.fates {S : Stand} (u : Uq S) {who : Nat} {f : Fate} (hl : S.fates[who]? = some .live) (hv : ∀ n, f = .done n → (S.views[who]?).getD 0 < n) : Uq ⟨S.cols, S.vers, S.fates.set who f, S.views⟩ := by
  refine ⟨fun b n h => ?_, fun i j v x hij hi hj hr => ?_⟩
  · have h' : (S.fates.set who f)[b]? = some (.done n) := h
    by_cases e : who = b
    · subst e
      have hlt : who < S.fates.length := (List.getElem?_eq_some_iff.mp hl).1
      rw [List.getElem?_set_self hlt] at h'
      exact hv n (Option.some.inj h')
    · rw [List.getElem?_set_ne e] at h'
      exact u.vd b n h'
  · rcases u.ch i j v x hij hi hj hr with z | z | ⟨e, he, l⟩
    · exact .inl (gn_setU hl z)
    · exact .inr (.inl (gn_setU hl z))
    · refine .inr (.inr ⟨e, he, ?_⟩)
      rcases l with z | ⟨n, z, hn⟩
      · exact .inl z
      · exact .inr ⟨n, done_setU hl z, hn⟩
theorem set_atU {l : List Ver} {i : Nat} {v x : Ver} (hi : l[i]? = some v) {a : Nat} {y : Ver} (h : (l.set i x)[a]? = some y) : (a = i ∧ y = x) ∨ (a ≠ i ∧ l[a]? = some y) := by
  by_cases e : i = a
  · subst e
    rw [List.getElem?_set_self (List.getElem?_eq_some_iff.mp hi).1] at h
    exact .inl ⟨rfl, (Option.some.inj h).symm⟩
  · rw [List.getElem?_set_ne e] at h
    exact .inr ⟨fun z => e z.symm, h⟩
theorem app_atU {l : List Ver} {x y : Ver} {a : Nat} (h : (l ++ [x])[a]? = some y) : (a = l.length ∧ y = x) ∨ (a < l.length ∧ l[a]? = some y) := by
  rcases Nat.lt_or_ge a l.length with z | z
  · rw [List.getElem?_append_left z] at h
    exact .inr ⟨z, h⟩
  · rw [List.getElem?_append_right z] at h
    have e : a - l.length = 0 := by
      have := (List.getElem?_eq_some_iff.mp h).1
      simp at this
      omega
    rw [e] at h
    exact .inl ⟨by omega, (Option.some.inj h).symm⟩
/-- one version's ender is written -/
theorem Uq.ended {S : Stand} (u : Uq S) {i0 : Nat} {v0 : Ver} {wr : Int} (h0 : S.vers[i0]? = some v0) (he : ∀ j, v0.ender = some j → S.fates[j.toNat]? = some .gone) :
    ∀ (i j : Nat) (v x : Ver), i < j → (S.vers.set i0 { v0 with ender := some wr })[i]? = some v → (S.vers.set i0 { v0 with ender := some wr })[j]? = some x → v.row = x.row → Gn S.fates v.maker ∨ Gn S.fates x.maker ∨ ∃ e, v.ender = some e ∧ LeW S.fates S.views e x.maker := by
  intro i j v x hij hi hj hr
  obtain ⟨x1, b1, b2, b3⟩ : ∃ x1, S.vers[j]? = some x1 ∧ x1.row = x.row ∧ x1.maker = x.maker := by
    rcases set_atU h0 hj with ⟨e, y⟩ | ⟨_, y⟩
    · subst e y; exact ⟨v0, h0, rfl, rfl⟩
    · exact ⟨x, y, rfl, rfl⟩
  rcases set_atU h0 hi with ⟨e, y⟩ | ⟨_, y⟩
  · subst e y
    rcases u.ch i j v0 x1 hij h0 b1 (by rw [b2]; exact hr) with z | z | ⟨e, z, l⟩
    · exact .inl z
    · exact .inr (.inl (b3 ▸ z))
    · have g := he e z
      rcases l with q | ⟨n, q, _⟩
      · exact .inr (.inl (by rw [← b3, ← q]; exact g))
      · rw [g] at q; cases q
  · rcases u.ch i j v x1 hij y b1 (by rw [b2]; exact hr) with z | z | ⟨e, z, l⟩
    · exact .inl z
    · exact .inr (.inl (b3 ▸ z))
    · exact .inr (.inr ⟨e, z, b3 ▸ l⟩)
theorem Uq.step {S S' : Stand} (d : DeedOk S) (u : Uq S) (s : Step S S') : Uq S' := by
  have ok := d.ok
  cases s with
  | begin h =>
    have mk : ∀ v ∈ S.vers, v.maker.toNat < S.fates.length := fun v hv => by
      have := (ok.vers v hv).maker
      omega
    have fl : ∀ {b : Nat} {f : Fate}, S.fates[b]? = some f → (S.fates ++ [Fate.live])[b]? = some f := fun {b f} e => by
      rw [List.getElem?_append_left (List.getElem?_eq_some_iff.mp e).1]; exact e
    refine ⟨fun b n e => ?_, fun i j v x hij hi hj hr => ?_⟩
    · have e' : (S.fates ++ [Fate.live])[b]? = some (.done n) := e
      rcases Nat.lt_or_ge b S.fates.length with z | z
      · rw [List.getElem?_append_left z] at e'
        show ((S.views ++ [((nums S.fates).length : Int)])[b]?).getD 0 < n
        rw [List.getElem?_append_left (by rw [ok.views]; exact z)]
        exact u.vd b n e'
      · rw [List.getElem?_append_right z] at e'
        have y : b - S.fates.length = 0 := by
          have := (List.getElem?_eq_some_iff.mp e').1
          simp at this
          omega
        rw [y] at e'
        cases e'
    · rcases u.ch i j v x hij hi hj hr with z | z | ⟨e, he, l⟩
      · exact .inl (fl z)
      · exact .inr (.inl (fl z))
      · refine .inr (.inr ⟨e, he, ?_⟩)
        rcases l with z | ⟨n, z, hn⟩
        · exact .inl z
        · refine .inr ⟨n, fl z, ?_⟩
          show n ≤ ((S.views ++ [((nums S.fates).length : Int)])[x.maker.toNat]?).getD 0
          rw [List.getElem?_append_left (by rw [ok.views]; exact mk x (List.mem_of_getElem? hj))]
          exact hn
  | gone who h => exact u.fates h fun n z => by cases z
  | done who h =>
    refine u.fates h fun n z => ?_
    cases z
    cases q : S.views[who]? with
    | none => show (0 : Int) < _; omega
    | some y =>
      have := (ok.view y (List.mem_of_getElem? q)).2
      show y < _
      omega
  | wrote who h hz w =>
    have nw : ¬ Gn S.fates (who : Int) := fun g => by
      have g' : S.fates[who]? = some .gone := g
      rw [h] at g'
      cases g'
    refine ⟨u.vd, ?_⟩
    cases w with
    | put row vals hr h0 hl hb =>
      intro i j v x hij hi hj hrow
      rcases app_atU hj with ⟨e, y⟩ | ⟨lt, y⟩
      · rcases app_atU hi with ⟨e2, _⟩ | ⟨_, y2⟩
        · omega
        · have := hr v (List.mem_of_getElem? y2)
          rw [hrow, y] at this
          exact absurd this (Int.lt_irrefl _)
      · rcases app_atU hi with ⟨e2, _⟩ | ⟨_, y2⟩
        · omega
        · exact u.ch i j v x hij y2 y hrow
    | strike i0 v0 hi0 hs he => exact u.ended hi0 he
    | turn i0 v0 vals root hi0 hs he hl hb hr =>
      intro i j v x hij hi hj hrow
      obtain ⟨on0, _⟩ := onV_iffU hs
      have g0 := on_notGn nw on0
      rcases app_atU hj with ⟨ej, y⟩ | ⟨ltj, y⟩
      · rcases app_atU hi with ⟨e2, _⟩ | ⟨_, y2⟩
        · omega
        · subst y
          have hrow' : v.row = v0.row := hrow
          rcases set_atU hi0 y2 with ⟨e3, y3⟩ | ⟨n3, y3⟩
          · subst y3
            exact .inr (.inr ⟨_, rfl, .inl rfl⟩)
          · rcases Nat.lt_or_gt_of_ne n3 with lt | gt
            · rcases u.ch i i0 v v0 lt y3 hi0 hrow' with z | z | ⟨e, z, l⟩
              · exact .inl z
              · exact absurd z g0
              · have o := le_on u l on0
                refine .inr (.inr ⟨e, z, ?_⟩)
                rcases on_iffU.mp o with q | ⟨n, q, hn⟩
                · exact .inl q.symm
                · exact .inr ⟨n, q, hn⟩
            · rcases u.ch i0 i v0 v gt hi0 y3 hrow'.symm with z | z | ⟨e, z, l⟩
              · exact absurd z g0
              · exact .inl z
              · have g := he e z
                rcases l with q | ⟨n, q, _⟩
                · exact .inl (by rw [← q]; exact g)
                · rw [g] at q; cases q
      · rcases app_atU hi with ⟨e2, _⟩ | ⟨_, y2⟩
        · rw [List.length_set] at e2 ltj
          omega
        · exact u.ended hi0 he i j v x hij y2 y hrow
/-! ### what may go -/
section
variable {h : MH} {Q : DK} {E : DXK} {S : Stand} {v : Ver} {least c : Int}
end
/-! ### while, ranges with steps, sorted sets of tuples -/
def whK (tb : DTS) (D : DEnds) (K : DSt → MH → Prop) (σ : DSt) : Bool → MH → Prop := fun b h1 => if b = true then tb { nx := K, ct := K, bk := D.nx, rt := D.rt } σ h1 else D.nx σ h1
theorem k_wh {tb : DTS} {D : DEnds} {K : DSt → MH → Prop} {σ : DSt} {b : Bool} {h : MH} (k1 : b = true → tb { nx := K, ct := K, bk := D.nx, rt := D.rt } σ h) (k2 : b = false → D.nx σ h) : whK tb D K σ b h := by
  cases b with
  | true => exact k1 rfl
  | false => exact k2 rfl
theorem wh_inv {c : DTT} {tb : DTS} {D : DEnds} (I : Nat → DSt → MH → Prop) (step : ∀ n σ h (K : DSt → MH → Prop), I n σ h → (∀ m σ' h', m < n → I m σ' h' → K σ' h') → c σ h (whK tb D K σ)) (n : Nat) (σ : DSt) (h : MH) (i : I n σ h) : dWhile c tb D σ h := by
  have all : ∀ N m σ h, m < N → I m σ h → whN c tb D N σ h := by
    intro N
    induction N with
    | zero => intro m _ _ z; omega
    | succ N ih => exact fun m σ h z i => step m σ h (fun σ' h' => whN c tb D N σ' h') i fun m' σ' h' z' i' => ih m' σ' h' (by omega) i'
  exact ⟨n + 1, all (n + 1) n σ h (Nat.lt_succ_self n) i⟩
/-! sorted sets -/
/-! ### things of any kind -/
def isTupB : PyData → Bool
  | .tuple _ => true
  | _ => false
def isLstB : PyData → Bool
  | .list _ => true
  | _ => false
def isStrB : PyData → Bool
  | .str _ => true
  | _ => false
def isBoolB : PyData → Bool
  | .bool _ => true
  | _ => false
def isIntB : PyData → Bool
  | .int _ => true
  | .bool _ => true
  | _ => false
def numB : PyData → Bool
  | .int _ => true
  | _ => false
def itemsT : PyData → List PyData
  | .tuple xs => xs
  | _ => []
theorem kb_tup : ∀ d : PyData, kitB (tyN d) "tuple" = some (isTupB d)
  | .none => (by decide +kernel : kitB "NoneType" "tuple" = some false)
  | .bool _ => (by decide +kernel : kitB "bool" "tuple" = some false)
  | .int _ => (by decide +kernel : kitB "int" "tuple" = some false)
  | .str _ => (by decide +kernel : kitB "str" "tuple" = some false)
  | .list _ => (by decide +kernel : kitB "list" "tuple" = some false)
  | .tuple _ => (by decide +kernel : kitB "tuple" "tuple" = some true)
  | .dict _ => (by decide +kernel : kitB "dict" "tuple" = some false)
theorem kb_lst : ∀ d : PyData, kitB (tyN d) "list" = some (isLstB d)
  | .none => (by decide +kernel : kitB "NoneType" "list" = some false)
  | .bool _ => (by decide +kernel : kitB "bool" "list" = some false)
  | .int _ => (by decide +kernel : kitB "int" "list" = some false)
  | .str _ => (by decide +kernel : kitB "str" "list" = some false)
  | .list _ => (by decide +kernel : kitB "list" "list" = some true)
  | .tuple _ => (by decide +kernel : kitB "tuple" "list" = some false)
  | .dict _ => (by decide +kernel : kitB "dict" "list" = some false)
theorem kb_str : ∀ d : PyData, kitB (tyN d) "str" = some (isStrB d)
  | .none => (by decide +kernel : kitB "NoneType" "str" = some false)
  | .bool _ => (by decide +kernel : kitB "bool" "str" = some false)
  | .int _ => (by decide +kernel : kitB "int" "str" = some false)
  | .str _ => (by decide +kernel : kitB "str" "str" = some true)
  | .list _ => (by decide +kernel : kitB "list" "str" = some false)
  | .tuple _ => (by decide +kernel : kitB "tuple" "str" = some false)
  | .dict _ => (by decide +kernel : kitB "dict" "str" = some false)
theorem kb_bool : ∀ d : PyData, kitB (tyN d) "bool" = some (isBoolB d)
  | .none => (by decide +kernel : kitB "NoneType" "bool" = some false)
  | .bool _ => (by decide +kernel : kitB "bool" "bool" = some true)
  | .int _ => (by decide +kernel : kitB "int" "bool" = some false)
  | .str _ => (by decide +kernel : kitB "str" "bool" = some false)
  | .list _ => (by decide +kernel : kitB "list" "bool" = some false)
  | .tuple _ => (by decide +kernel : kitB "tuple" "bool" = some false)
  | .dict _ => (by decide +kernel : kitB "dict" "bool" = some false)
theorem kb_int : ∀ d : PyData, kitB (tyN d) "int" = some (isIntB d)
  | .none => (by decide +kernel : kitB "NoneType" "int" = some false)
  | .bool _ => (by decide +kernel : kitB "bool" "int" = some true)
  | .int _ => (by decide +kernel : kitB "int" "int" = some true)
  | .str _ => (by decide +kernel : kitB "str" "int" = some false)
  | .list _ => (by decide +kernel : kitB "list" "int" = some false)
  | .tuple _ => (by decide +kernel : kitB "tuple" "int" = some false)
  | .dict _ => (by decide +kernel : kitB "dict" "int" = some false)
theorem tup_of {d : PyData} (h : isTupB d = true) : ∃ xs, d = .tuple xs := by
  cases d <;> first | exact ⟨_, rfl⟩ | cases h
theorem num_of {d : PyData} (h : numB d = true) : ∃ i, d = .int i := by
  cases d <;> first | exact ⟨_, rfl⟩ | cases h
theorem nums_of : ∀ {xs : List PyData}, xs.all numB = true → ∃ ns : List Int, xs = ns.map PyData.int
  | [], _ => ⟨[], rfl⟩
  | x :: xs, h => by
    rw [List.all_cons, Bool.and_eq_true] at h
    obtain ⟨i, rfl⟩ := num_of h.1
    obtain ⟨ns, rfl⟩ := nums_of h.2
    exact ⟨i :: ns, rfl⟩
theorem all_nums (ns : List Int) : (ns.map PyData.int).all numB = true := by
  rw [List.all_map]
  exact List.all_eq_true.mpr fun _ _ => rfl
theorem bools_map {α : Type} (p : α → Bool) : ∀ l : List α, bools (l.map fun a => PyData.bool (p a)) = some (l.map p)
  | [] => rfl
  | a :: l => by
    show (match bools (l.map fun a => PyData.bool (p a)) with
      | some bs => some (p a :: bs)
      | none => none) = _
    rw [bools_map p l]
    rfl
section
variable {h : MH} {Q : DK} {E : DXK} {σ : DSt}
theorem k_isTup {d : PyData} (k : Q (.d (.bool (isTupB d))) h) : isK "tuple" Q (.d d) h := k_isT rfl (kb_tup d) k
theorem k_isLst {d : PyData} (k : Q (.d (.bool (isLstB d))) h) : isK "list" Q (.d d) h := k_isT rfl (kb_lst d) k
theorem k_isStr {d : PyData} (k : Q (.d (.bool (isStrB d))) h) : isK "str" Q (.d d) h := k_isT rfl (kb_str d) k
theorem k_isBool {d : PyData} (k : Q (.d (.bool (isBoolB d))) h) : isK "bool" Q (.d d) h := k_isT rfl (kb_bool d) k
theorem k_isInt {d : PyData} (k : Q (.d (.bool (isIntB d))) h) : isK "int" Q (.d d) h := k_isT rfl (kb_int d) k
theorem b_allP {α : Type} {l : List α} {p : α → Bool} (k : Q (.d (.bool (l.all p))) h) : rdAll [.d (.list (l.map fun a => PyData.bool (p a)))] h Q := by
  show (match bools (l.map fun a => PyData.bool (p a)) with
    | some bs => Q (.d (.bool (bs.all id))) h
    | none => False)
  rw [bools_map]
  show Q (.d (.bool ((l.map p).all id))) h
  rw [List.all_map]
  exact k
end
local macro_rules | `(tactic| walk_at "gl1") => `(tactic| first
  | walk_at "dl1"
  | with_reducible refine e_wZip ?_
  | with_reducible refine k_zipT ?_
  | with_reducible refine e_isT ?_
  | with_reducible refine k_isTup ?_
  | with_reducible refine k_isLst ?_
  | with_reducible refine k_isStr ?_
  | with_reducible refine k_isBool ?_
  | with_reducible refine k_isInt ?_)
local macro_rules | `(tactic| walk_at "gl") => `(tactic| repeat walk_at "gl1")
section
variable {h : MH} {Q : DK} {E : DXK} {σ : DSt}
theorem w_is_numberG {d : PyData} (k : Q (.d (.bool (numB d))) h) : W_is_number [.d d] h Q E := by
  refine fnW_mk rfl ?_
  unfold t_is_number
  show dRet _ _ [some (.d d)] h
  walk_at "gl"
  refine k_andV (fun q => ?_) fun q => ?_
  · walk_at "gl"
    rw [restr_self]
    have e : numB d = !isBoolB d := by cases d <;> first | rfl | cases q
    rw [e] at k
    exact k
  · walk_at "gl"
    rw [restr_self]
    have e : numB d = false := by cases d <;> first | rfl | cases q
    rw [e] at k
    exact k
end
/-! rising triples -/
section
variable {h : MH} {Q : DK} {E : DXK} {σ : DSt}
end

/-! ### data with great numbers, composed; spoilt things -/
def bOk : Nat → PyData → Bool
  | _, .none => true
  | _, .bool _ => true
  | _, .int i => decide (i.natAbs < 10 ^ 60)
  | _, .str x => PySem.PyData.strOk x && decide ((reprText x).length ≤ 60)
  | n + 1, .list xs => xs.all (bOk n)
  | n + 1, .tuple xs => xs.all (bOk n)
  | 0, .list _ => false
  | 0, .tuple _ => false
  | _, .dict _ => false
theorem bOk_dOk : ∀ (n : Nat) (d : PyData), bOk n d = true → dOk n d = true
  | n, .none, _ => by cases n <;> rfl
  | n, .bool _, _ => by cases n <;> rfl
  | n, .int _, _ => by cases n <;> rfl
  | n, .str x, h => by cases n <;> simp [bOk] at h <;> simpa [dOk] using h.1
  | n + 1, .list xs, h => by
    have z : ∀ x ∈ xs, bOk n x = true := List.all_eq_true.mp (by simpa [bOk] using h)
    simp only [dOk]
    exact List.all_eq_true.mpr fun x hx => bOk_dOk n x (z x hx)
  | n + 1, .tuple xs, h => by
    have z : ∀ x ∈ xs, bOk n x = true := List.all_eq_true.mp (by simpa [bOk] using h)
    simp only [dOk]
    exact List.all_eq_true.mpr fun x hx => bOk_dOk n x (z x hx)
  | 0, .list _, h => by simp [bOk] at h
  | 0, .tuple _, h => by simp [bOk] at h
  | n, .dict _, h => by cases n <;> simp [bOk] at h
theorem bOk_up : ∀ (n m : Nat) (d : PyData), n ≤ m → bOk n d = true → bOk m d = true
  | n, m, .none, _, _ => by cases m <;> rfl
  | n, m, .bool _, _, _ => by cases m <;> rfl
  | n, m, .int _, _, h => by cases n <;> cases m <;> simpa [bOk] using h
  | n, m, .str x, _, h => by cases n <;> cases m <;> simpa [bOk] using h
  | n + 1, m + 1, .list xs, hl, h => by
    have z : ∀ x ∈ xs, bOk n x = true := List.all_eq_true.mp (by simpa [bOk] using h)
    simp only [bOk]
    exact List.all_eq_true.mpr fun x hx => bOk_up n m x (by omega) (z x hx)
  | n + 1, m + 1, .tuple xs, hl, h => by
    have z : ∀ x ∈ xs, bOk n x = true := List.all_eq_true.mp (by simpa [bOk] using h)
    simp only [bOk]
    exact List.all_eq_true.mpr fun x hx => bOk_up n m x (by omega) (z x hx)
  | n + 1, 0, .list _, hl, _ => by omega
  | n + 1, 0, .tuple _, hl, _ => by omega
  | 0, _, .list _, _, h => by simp [bOk] at h
  | 0, _, .tuple _, _, h => by simp [bOk] at h
  | n, _, .dict _, _, h => by cases n <;> simp [bOk] at h
theorem nodes_upB : ∀ (n m : Nat) (d : PyData), n ≤ m → bOk n d = true → nodes m d = nodes n d
  | n, m, .none, _, _ => by cases n <;> cases m <;> rfl
  | n, m, .bool _, _, _ => by cases n <;> cases m <;> rfl
  | n, m, .int _, _, _ => by cases n <;> cases m <;> rfl
  | n, m, .str x, _, _ => by cases n <;> cases m <;> rfl
  | n + 1, m + 1, .list xs, hl, h => by
    have z : ∀ x ∈ xs, bOk n x = true := List.all_eq_true.mp (by simpa [bOk] using h)
    show 1 + (xs.map (nodes m)).sum = 1 + (xs.map (nodes n)).sum
    rw [List.map_congr_left fun x hx => nodes_upB n m x (by omega) (z x hx)]
  | n + 1, m + 1, .tuple xs, hl, h => by
    have z : ∀ x ∈ xs, bOk n x = true := List.all_eq_true.mp (by simpa [bOk] using h)
    show 1 + (xs.map (nodes m)).sum = 1 + (xs.map (nodes n)).sum
    rw [List.map_congr_left fun x hx => nodes_upB n m x (by omega) (z x hx)]
  | n + 1, 0, .list _, hl, _ => by omega
  | n + 1, 0, .tuple _, hl, _ => by omega
  | 0, _, .list _, _, h => by simp [bOk] at h
  | 0, _, .tuple _, _, h => by simp [bOk] at h
  | n, _, .dict _, _, h => by cases n <;> simp [bOk] at h
theorem sum_leB {f g : PyData → Nat} : ∀ {xs : List PyData}, (∀ x ∈ xs, f x + 2 ≤ 66 * g x) → (xs.map f).sum + 2 * xs.length ≤ 66 * (xs.map g).sum
  | [], _ => by simp
  | x :: xs, h => by
    have a := h x List.mem_cons_self
    have b := sum_leB (xs := xs) fun y hy => h y (List.mem_cons_of_mem _ hy)
    simp only [List.map_cons, List.sum_cons, List.length_cons]
    omega
theorem show_leB : ∀ (n : Nat) (d : PyData), bOk n d = true → d.shown.length + 2 ≤ 66 * nodes n d ∧ d.showable = true
  | n, .none, _ => ⟨by cases n <;> (simp only [nodes]; decide), by simp only [PyData.showable]⟩
  | n, .bool b, _ => ⟨by cases n <;> cases b <;> (simp only [nodes]; decide), by simp only [PyData.showable]⟩
  | n, .int i, h => by
    have z : i.natAbs < 10 ^ 60 := by cases n <;> simpa [bOk] using h
    have e : (Str.ofString (toString i)).length ≤ 61 := by
      rw [PySem.ofString_length]
      exact int_text_length_le10 (k := 60) (by decide) z
    refine ⟨?_, ?_⟩
    · have e2 : (PyData.int i).shown = Str.ofString (toString i) := by simp only [PyData.shown] <;> rfl
      rw [e2]
      cases n <;> (simp only [nodes]; omega)
    · simp only [PyData.showable]
      refine decide_eq_true ?_
      by_cases q : i.natAbs = 0
      · rw [q]; decide
      · exact Nat.lt_trans ((Nat.log2_lt (k := 200) q).mpr (Nat.lt_trans z (by decide +kernel))) (by decide)
  | n, .str x, h => by
    have z : (reprText x).length ≤ 60 := by cases n <;> (simp [bOk] at h; exact h.2)
    refine ⟨?_, by simp only [PyData.showable]⟩
    have e2 : (PyData.str x).shown = reprText x := by simp only [PyData.shown]
    rw [e2]
    cases n <;> (simp only [nodes]; omega)
  | n + 1, .list xs, h => by
    have z : ∀ x ∈ xs, bOk n x = true := List.all_eq_true.mp (by simpa [bOk] using h)
    have a := listText_len_le (PyData.shownAll xs)
    have b := sum_leB (f := fun x => x.shown.length) (g := nodes n) fun x hx => (show_leB n x (z x hx)).1
    rw [shownAll_eq, List.map_map, List.length_map] at a
    refine ⟨?_, ?_⟩
    · have e2 : (PyData.list xs).shown = listText (xs.map PyData.shown) := by simp only [PyData.shown, shownAll_eq]
      rw [e2]
      simp only [nodes]
      have c : (xs.map ((fun x => x.length) ∘ PyData.shown)).sum = (xs.map fun x => x.shown.length).sum := rfl
      omega
    · simp only [PyData.showable]
      clear a b h
      induction xs with
      | nil => rfl
      | cons x xs ih =>
        simp only [PyData.showableAll, Bool.and_eq_true]
        exact ⟨(show_leB n x (z x List.mem_cons_self)).2, ih fun y hy => z y (List.mem_cons_of_mem _ hy)⟩
  | n + 1, .tuple xs, h => by
    have z : ∀ x ∈ xs, bOk n x = true := List.all_eq_true.mp (by simpa [bOk] using h)
    have a := tupleText_len_le (PyData.shownAll xs)
    have b := sum_leB (f := fun x => x.shown.length) (g := nodes n) fun x hx => (show_leB n x (z x hx)).1
    rw [shownAll_eq, List.map_map, List.length_map] at a
    refine ⟨?_, ?_⟩
    · have e2 : (PyData.tuple xs).shown = tupleText (xs.map PyData.shown) := by simp only [PyData.shown, shownAll_eq]
      rw [e2]
      simp only [nodes]
      have c : (xs.map ((fun x => x.length) ∘ PyData.shown)).sum = (xs.map fun x => x.shown.length).sum := rfl
      omega
    · simp only [PyData.showable]
      clear a b h
      induction xs with
      | nil => rfl
      | cons x xs ih =>
        simp only [PyData.showableAll, Bool.and_eq_true]
        exact ⟨(show_leB n x (z x List.mem_cons_self)).2, ih fun y hy => z y (List.mem_cons_of_mem _ hy)⟩
  | 0, .list _, h => by simp [bOk] at h
  | 0, .tuple _, h => by simp [bOk] at h
  | n, .dict _, h => by cases n <;> simp [bOk] at h
theorem reprOk_ofB {n : Nat} {d : PyData} (hn : n ≤ 32) (h : bOk n d = true) (hz : 66 * nodes n d ≤ 16777216) : reprOk d := by
  obtain ⟨a, b⟩ := show_leB n d h
  obtain ⟨c, e⟩ := dOk_ok n d (bOk_dOk n d h)
  exact ⟨b, PyData.hasDict_of_canLay d c, by omega, by rw [sizeLine_eq]; omega⟩
def Big (n c : Nat) (d : PyData) : Prop := bOk n d = true ∧ nodes n d ≤ c
def BigL (n c : Nat) (xs : List PyData) : Prop := (∀ x ∈ xs, bOk n x = true) ∧ (xs.map (nodes n)).sum ≤ c
theorem Big.repr {n c : Nat} {d : PyData} (h : Big n c d) (hn : n ≤ 32 := by first | decide | omega) (hc : c ≤ 250000 := by first | decide | omega) : reprOk d := reprOk_ofB hn h.1 (by have := h.2; omega)
theorem Big.shaped {n c : Nat} {d : PyData} (h : Big n c d) (hn : n ≤ 64 := by first | decide | omega) : SeqAt.shaped d = true := shaped_ok hn (bOk_dOk n d h.1)
theorem Big.up {n m c c' : Nat} {d : PyData} (h : Big n c d) (hn : n ≤ m := by first | decide | omega) (hc : c ≤ c' := by first | decide | omega) : Big m c' d := ⟨bOk_up n m d hn h.1, by rw [nodes_upB n m d hn h.1]; exact Nat.le_trans h.2 hc⟩
theorem BigL.up {n m c c' : Nat} {d : List PyData} (h : BigL n c d) (hn : n ≤ m := by first | decide | omega) (hc : c ≤ c' := by first | decide | omega) : BigL m c' d := ⟨fun x hx => bOk_up n m x hn (h.1 x hx), by
  rw [List.map_congr_left fun x hx => nodes_upB n m x hn (h.1 x hx)]
  exact Nat.le_trans h.2 hc⟩
theorem BigL.nil {n : Nat} : BigL n 0 [] := ⟨fun x hx => (by cases hx), by simp⟩
theorem BigL.cons {n a b : Nat} {x : PyData} {xs : List PyData} (h : Big n a x) (t : BigL n b xs) : BigL n (a + b) (x :: xs) := ⟨fun y hy => by
  rcases List.mem_cons.mp hy with rfl | q
  · exact h.1
  · exact t.1 y q, by rw [List.map_cons, List.sum_cons]; exact Nat.add_le_add h.2 t.2⟩
theorem BigL.app {n a b : Nat} {xs ys : List PyData} (h : BigL n a xs) (t : BigL n b ys) : BigL n (a + b) (xs ++ ys) := ⟨fun y hy => by
  rcases List.mem_append.mp hy with q | q
  · exact h.1 y q
  · exact t.1 y q, by rw [List.map_append, List.sum_append]; exact Nat.add_le_add h.2 t.2⟩
theorem BigL.all {n c k : Nat} {xs : List PyData} (h : ∀ x ∈ xs, Big n c x) (hl : xs.length ≤ k) : BigL n (c * k) xs := ⟨fun x hx => (h x hx).1, Nat.le_trans (nodes_le fun x hx => (h x hx).2) (Nat.mul_le_mul_left _ hl)⟩
theorem BigL.tup {n c : Nat} {xs : List PyData} (h : BigL n c xs) : Big (n + 1) (c + 1) (.tuple xs) := ⟨by simp only [bOk]; exact List.all_eq_true.mpr h.1, by
  have e : nodes (n + 1) (.tuple xs) = 1 + (xs.map (nodes n)).sum := rfl
  rw [e]; have := h.2; omega⟩
theorem BigL.lst {n c : Nat} {xs : List PyData} (h : BigL n c xs) : Big (n + 1) (c + 1) (.list xs) := ⟨by simp only [bOk]; exact List.all_eq_true.mpr h.1, by
  have e : nodes (n + 1) (.list xs) = 1 + (xs.map (nodes n)).sum := rfl
  rw [e]; have := h.2; omega⟩
theorem Big.items {n c : Nat} {xs : List PyData} (h : Big (n + 1) c (.tuple xs)) : BigL n (c - 1) xs := ⟨List.all_eq_true.mp (by have := h.1; simpa [bOk] using this), by
  have e : nodes (n + 1) (.tuple xs) = 1 + (xs.map (nodes n)).sum := rfl
  have := h.2
  omega⟩
theorem Big.pos {n c : Nat} {d : PyData} (h : Big n c d) : 1 ≤ c := Nat.le_trans (by cases n <;> cases d <;> simp [nodes]) h.2
theorem nodes_pos (n : Nat) (d : PyData) : 1 ≤ nodes n d := by cases n <;> cases d <;> simp [nodes]
theorem BigL.len {n c : Nat} {xs : List PyData} (h : BigL n c xs) : xs.length ≤ c := by
  refine Nat.le_trans ?_ h.2
  have go : ∀ l : List PyData, l.length ≤ (l.map (nodes n)).sum := fun l => by
    induction l with
    | nil => simp
    | cons x l ih =>
      rw [List.map_cons, List.sum_cons, List.length_cons]
      have := nodes_pos n x
      omega
  exact go xs
theorem BigL.mem {n c : Nat} {xs : List PyData} (h : BigL n c xs) {x : PyData} (hx : x ∈ xs) : Big n c x := ⟨h.1 x hx, by
  refine Nat.le_trans ?_ h.2
  clear h
  induction xs with
  | nil => cases hx
  | cons y xs ih =>
    rw [List.map_cons, List.sum_cons]
    rcases List.mem_cons.mp hx with rfl | q
    · omega
    · have := ih q
      omega⟩
theorem BigL.sub {n c : Nat} {xs ys : List PyData} (h : BigL n c xs) (s : ys.Sublist xs) : BigL n c ys := ⟨fun x hx => h.1 x (s.subset hx), by
  refine Nat.le_trans ?_ h.2
  clear h
  induction s with
  | slnil => exact Nat.le_refl _
  | cons a _ ih => rw [List.map_cons, List.sum_cons]; omega
  | cons_cons a _ ih => rw [List.map_cons, List.map_cons, List.sum_cons, List.sum_cons]; omega⟩
theorem BigL.perm {n c : Nat} {xs ys : List PyData} (h : BigL n c xs) (p : ys.Perm xs) : BigL n c ys := ⟨fun x hx => h.1 x (p.mem_iff.mp hx), by
  have e : (ys.map (nodes n)).sum = (xs.map (nodes n)).sum := (p.map _).sum_nat
  rw [e]
  exact h.2⟩
theorem Big.none {n : Nat} : Big n 1 .none := ⟨by cases n <;> rfl, by cases n <;> exact Nat.le_refl 1⟩
theorem Big.bool {n : Nat} {b : Bool} : Big n 1 (.bool b) := ⟨by cases n <;> rfl, by cases n <;> exact Nat.le_refl 1⟩
theorem Big.int {n : Nat} {i : Int} (h : -(10 ^ 59) ≤ i ∧ i ≤ 10 ^ 59) : Big n 1 (.int i) := ⟨by cases n <;> (simp only [bOk]; exact decide_eq_true (by omega)), by cases n <;> exact Nat.le_refl 1⟩
theorem Big.str {n : Nat} {x : Str} (h : (PySem.PyData.strOk x && decide ((reprText x).length ≤ 60)) = true := by decide +kernel) : Big n 1 (.str x) := ⟨by cases n <;> exact h, by cases n <;> exact Nat.le_refl 1⟩
theorem sOk_bOk : ∀ (n : Nat) (d : PyData), sOk n d = true → bOk n d = true
  | n, .none, _ => by cases n <;> rfl
  | n, .bool _, _ => by cases n <;> rfl
  | n, .int i, h => by
    have z : i.natAbs < 10 ^ 20 := by cases n <;> simpa [sOk] using h
    have z2 : i.natAbs < 10 ^ 60 := Nat.lt_trans z (by decide +kernel)
    cases n <;> (simp only [bOk]; exact decide_eq_true z2)
  | n, .str x, h => by
    have z : PySem.PyData.strOk x = true ∧ (reprText x).length ≤ 24 := by cases n <;> simpa [sOk] using h
    have y : (PySem.PyData.strOk x && decide ((reprText x).length ≤ 60)) = true := by
      rw [z.1, decide_eq_true (by omega)]
      rfl
    cases n <;> exact y
  | n + 1, .list xs, h => by
    have z : ∀ x ∈ xs, sOk n x = true := List.all_eq_true.mp (by simpa [sOk] using h)
    simp only [bOk]
    exact List.all_eq_true.mpr fun x hx => sOk_bOk n x (z x hx)
  | n + 1, .tuple xs, h => by
    have z : ∀ x ∈ xs, sOk n x = true := List.all_eq_true.mp (by simpa [sOk] using h)
    simp only [bOk]
    exact List.all_eq_true.mpr fun x hx => sOk_bOk n x (z x hx)
  | 0, .list _, h => by simp [sOk] at h
  | 0, .tuple _, h => by simp [sOk] at h
  | n, .dict _, h => by cases n <;> simp [sOk] at h
theorem Sml.big {n c : Nat} {d : PyData} (h : Sml n c d) : Big n c d := ⟨sOk_bOk n d h.1, h.2⟩
theorem eqv_nilL (ys : List PyData) : PyData.eqv (.list ys) (.list []) = ys.isEmpty := by cases ys <;> simp [PyData.eqv, PyData.eqvAll]
theorem eqv_nilT (ys : List PyData) : PyData.eqv (.tuple ys) (.tuple []) = ys.isEmpty := by cases ys <;> simp [PyData.eqv, PyData.eqvAll]
theorem cut_toB {xs : List PyData} {n : Nat} : cutD xs none (some (n : Int)) = xs.take n := by
  unfold cutD
  rw [HT.sIx_nat, HT.sIx_none, List.drop_zero, Nat.sub_zero]
  exact List.take_eq_take_iff.mpr (by omega)
local macro_rules | `(tactic| walk_at "gl1") => `(tactic| first
  | walk_at "dl1"
  | with_reducible refine e_isT ?_
  | with_reducible refine k_isTup ?_
  | with_reducible refine k_isLst ?_
  | with_reducible refine k_isStr ?_
  | with_reducible refine k_isBool ?_
  | with_reducible refine k_isInt ?_)
local macro_rules | `(tactic| walk_at "gl") => `(tactic| repeat walk_at "gl1")
local macro_rules | `(tactic| walk_at "dl1") => `(tactic| first
  | with_reducible refine e_wZip ?_
  | with_reducible refine k_zipT ?_
  | with_reducible refine k_zipL ?_
  | with_reducible refine e_wEnum ?_
  | with_reducible refine k_enumT ?_
  | with_reducible refine k_enumL ?_
  | with_reducible refine e_minD ?_
  | with_reducible refine e_ext ?_
  | with_reducible refine e_fAdd ?_
  | ((with_reducible apply k_ext); walk_at "hp"))
local macro_rules | `(tactic| walk_at "dl1") => `(tactic| first
  | ((with_reducible apply r_ixD); walk_at "hp"; exact rfl; (first | exact fv_cells | exact fv_at | exact fv_left | exact fv_turn))
  | ((with_reducible apply k_setD); walk_at "hp"; exact rfl; (show (4 : Nat) < 16777216; decide); (first | rw [fp_at] | rw [fp_left] | rw [fp_turn]))
  | with_reducible refine r_isB ?_
  | with_reducible refine r_notB ?_)
local macro_rules | `(tactic| walk_at "dk") => `(tactic| first | decide +kernel | exact Bool.noConfusion | (intro z; simp at z; done))
local macro_rules | `(tactic| walk_at "sk1") => `(tactic| first
  | walk_at "dl1"
  | with_reducible refine k_tg2 ?_
  | with_reducible refine k_tg3 ?_
  | with_reducible refine k_tg4 ?_
  | with_reducible refine k_tg5 ?_
  | with_reducible refine k_tg6 ?_
  | ((with_reducible refine k_if (fun _ => ?_) (fun z => absurd z ?_)); rotate_left; (focus walk_at "dk"))
  | ((with_reducible refine k_if (fun z => absurd z ?_) (fun _ => ?_)); (focus walk_at "dk"))
  | ((with_reducible refine k_and (fun _ => ?_) (fun z => absurd z ?_)); rotate_left; (focus walk_at "dk"))
  | ((with_reducible refine k_and (fun z => absurd z ?_) (fun _ => ?_)); (focus walk_at "dk"))
  | ((with_reducible refine k_or (fun _ => ?_) (fun z => absurd z ?_)); rotate_left; (focus walk_at "dk"))
  | ((with_reducible refine k_or (fun z => absurd z ?_) (fun _ => ?_)); (focus walk_at "dk"))
  | ((with_reducible refine k_ifE (fun _ => ?_) (fun z => absurd z ?_)); rotate_left; (focus walk_at "dk"))
  | ((with_reducible refine k_ifE (fun z => absurd z ?_) (fun _ => ?_)); (focus walk_at "dk"))
  | ((with_reducible refine k_andV (fun _ => ?_) (fun z => absurd z ?_)); rotate_left; (focus walk_at "dk"))
  | ((with_reducible refine k_andV (fun z => absurd z ?_) (fun _ => ?_)); (focus walk_at "dk"))
  | ((with_reducible refine k_orV (fun _ => ?_) (fun z => absurd z ?_)); rotate_left; (focus walk_at "dk"))
  | ((with_reducible refine k_orV (fun z => absurd z ?_) (fun _ => ?_)); (focus walk_at "dk"))
  | ((with_reducible apply e_isXT (b := false)); exact rfl; (try dsimp only [noW]); (decide +kernel); decide; (try dsimp only [noW]); (decide +kernel))
  | ((with_reducible apply e_isXT (b := true)); exact rfl; (try dsimp only [noW]); (decide +kernel); decide; (try dsimp only [noW]); (decide +kernel))
  | ((with_reducible apply e_isX (b := true)); exact rfl; (try dsimp only [noW]); (decide +kernel))
  | ((with_reducible apply e_isX (b := false)); exact rfl; (try dsimp only [noW]); (decide +kernel))
  | ((with_reducible apply e_xf); exact rfl; (try dsimp only [noW]); (decide +kernel); rfl)
  | with_reducible refine e_raise ?_
  | with_reducible refine k_raise ?_
  | with_reducible refine tryAs_mk ?_)
local macro_rules | `(tactic| walk_at "sk") => `(tactic| repeat walk_at "sk1")

local macro_rules | `(tactic| walk_at "dl1") => `(tactic| first
  | with_reducible refine e_isT ?_
  | with_reducible refine k_isTup ?_
  | with_reducible refine k_isLst ?_
  | with_reducible refine k_isStr ?_
  | with_reducible refine k_isBool ?_
  | with_reducible refine k_isInt ?_
  | with_reducible refine e_revA ?_
  | with_reducible refine e_sortSetQ ?_
  | with_reducible refine e_wEnum ?_
  | with_reducible refine k_enumT ?_
  | with_reducible refine e_dc ?_
  | with_reducible refine e_tupRg ?_
  | with_reducible refine e_raise2 ?_
  | with_reducible refine k_raise2 ?_
  | ((with_reducible apply r_ixD); walk_at "hp"; exact rfl; (first | exact fv_cells | exact fv_at | exact fv_left | exact fv_turn))
  | ((with_reducible apply k_setD); walk_at "hp"; exact rfl; (show (4 : Nat) < 16777216; decide); (first | rw [fp_at] | rw [fp_left] | rw [fp_turn])))

local macro_rules | `(tactic| walk_at "dl1") => `(tactic| first
  | with_reducible refine e_fld ?_
  | ((with_reducible apply k_fld); walk_at "hp"; exact rfl)
  | with_reducible refine e_sfld ?_
  | with_reducible refine e_meth ?_)
local macro_rules | `(tactic| walk_at "sA1") => `(tactic| first | with_reducible refine e_rtA ?_ | with_reducible refine e_nxA ?_ | walk_at "sk1")
local macro_rules | `(tactic| walk_at "sA") => `(tactic| repeat walk_at "sA1")

local macro_rules | `(tactic| walk_at "dl1") => `(tactic| first
  | with_reducible refine e_asP ?_
  | ((with_reducible apply k_asP); walk_at "hp"))

/-! ### versions, stands -/
/-! ### a law's own table -/
section
variable  {c row place serial dones x : Int} {w' : Addr}
end
def wtL (ws : List (Int × Int)) : List (Key × SV) := ws.map fun p => (.inl p.1, .d (.int p.2))
def lookW (ws : List (Int × Int)) (x : Int) : Option Int := (ws.find? fun p => decide (p.1 = x)).map (·.2)
def putW (ws : List (Int × Int)) (x y : Int) : List (Int × Int) := if (ws.any fun p => decide (p.1 = x)) = true then ws.map (fun p => if p.1 = x then (p.1, y) else p) else ws ++ [(x, y)]
theorem inl_eq {a b : Int} : ((Sum.inl a : Key) = Sum.inl b) ↔ a = b := ⟨fun e => Sum.inl.inj e, fun e => by rw [e]⟩
theorem wt_val (x : Int) : ∀ ws : List (Int × Int), valS (wtL ws) (.inl x) = (lookW ws x).map fun y => .d (.int y)
  | [] => rfl
  | p :: r => by
    have ih := wt_val x r
    unfold valS lookW wtL at *
    rw [List.map_cons, List.find?_cons, List.find?_cons]
    by_cases e : p.1 = x
    · subst e; simp
    · simp only [inl_eq, e, decide_false] at ih ⊢
      exact ih
theorem wt_any (x : Int) (ws : List (Int × Int)) : ((wtL ws).any fun kv => decide (kv.1 = Sum.inl x)) = ws.any fun p => decide (p.1 = x) := by
  unfold wtL
  rw [List.any_map]
  congr 1
  funext p
  show decide ((Sum.inl p.1 : Key) = Sum.inl x) = decide (p.1 = x)
  simp only [inl_eq]
theorem wt_put (x y : Int) (ws : List (Int × Int)) : putS (wtL ws) (.inl x) (.d (.int y)) = wtL (putW ws x y) := by
  unfold putS putW
  rw [wt_any]
  by_cases q : (ws.any fun p => decide (p.1 = x)) = true
  · rw [if_pos q, if_pos q]
    unfold wtL
    rw [List.map_map, List.map_map]
    refine List.map_congr_left fun p _ => ?_
    show (if (Sum.inl p.1 : Key) = Sum.inl x then ((Sum.inl p.1 : Key), SV.d (.int y)) else (Sum.inl p.1, SV.d (.int p.2))) = _
    by_cases e : p.1 = x
    · subst e; simp
    · simp [inl_eq, e]
  · rw [if_neg q, if_neg q]
    unfold wtL
    rw [List.map_append]
    rfl
theorem look_none {ws : List (Int × Int)} {x : Int} : lookW ws x = none ↔ x ∉ ws.map (·.1) := by
  unfold lookW
  rw [Option.map_eq_none_iff, List.find?_eq_none]
  refine ⟨fun h m => ?_, fun h p hp e => h ?_⟩
  · obtain ⟨p, hp, rfl⟩ := List.mem_map.mp m
    exact h p hp (by simp)
  · exact List.mem_map.mpr ⟨p, hp, of_decide_eq_true e⟩
theorem look_some {ws : List (Int × Int)} {x y : Int} (h : lookW ws x = some y) : (x, y) ∈ ws := by
  unfold lookW at h
  obtain ⟨p, hp, rfl⟩ := Option.map_eq_some_iff.mp h
  have e := List.find?_some hp
  have e1 : p.1 = x := of_decide_eq_true e
  subst e1
  exact List.mem_of_find?_eq_some hp
theorem fst_inj {ws : List (Int × Int)} (nd : (ws.map (·.1)).Nodup) {p q : Int × Int} (hp : p ∈ ws) (hq : q ∈ ws) (e : p.1 = q.1) : p = q := by
  induction ws with
  | nil => cases hp
  | cons r ws ih =>
    rw [List.map_cons, List.nodup_cons] at nd
    rcases List.mem_cons.mp hp with rfl | hp'
    · rcases List.mem_cons.mp hq with rfl | hq'
      · rfl
      · exact absurd (List.mem_map.mpr ⟨q, hq', e.symm⟩) nd.1
    · rcases List.mem_cons.mp hq with rfl | hq'
      · exact absurd (List.mem_map.mpr ⟨p, hp', e⟩) nd.1
      · exact ih nd.2 hp' hq'
theorem look_of {ws : List (Int × Int)} (nd : (ws.map (·.1)).Nodup) {x y : Int} (h : (x, y) ∈ ws) : lookW ws x = some y := by
  cases q : lookW ws x with
  | none => exact absurd (List.mem_map.mpr ⟨(x, y), h, rfl⟩) (look_none.mp q)
  | some z =>
    have e := fst_inj nd (look_some q) h rfl
    rw [Prod.mk.injEq] at e
    rw [e.2]
theorem put_new {ws : List (Int × Int)} {x y : Int} (h : lookW ws x = none) : putW ws x y = ws ++ [(x, y)] := by
  unfold putW
  rw [if_neg]
  intro z
  obtain ⟨p, hp, e⟩ := List.any_eq_true.mp z
  exact look_none.mp h (List.mem_map.mpr ⟨p, hp, of_decide_eq_true e⟩)
section
variable {h h' : MH} {a b : Addr}  
end

/-! ### deeds at the own table: parts -/
def pairD (p : Int × Int) : PyData := .tuple [.int p.1, .int p.2]
theorem pairsD_wt : ∀ ws : List (Int × Int), pairsD (ws.map pairD) = some (wtL ws)
  | [] => rfl
  | p :: ws => by
    have ih := pairsD_wt ws
    show (match keyP (PyData.int p.1), pairsD (ws.map pairD) with
      | some k, some rs => some ((k, SV.d (.int p.2)) :: rs)
      | _, _ => none) = _
    rw [ih]
    rfl
theorem merge_wt : ∀ (ws acc : List (Int × Int)), ((acc ++ ws).map (·.1)).Nodup → mergeS (wtL acc) (wtL ws) = wtL (acc ++ ws)
  | [], acc, _ => by simp [mergeS, wtL]
  | p :: ws, acc, nd => by
    have q : lookW acc p.1 = none := look_none.mpr fun m => by
      rw [List.map_append, List.nodup_append] at nd
      exact nd.2.2 p.1 m p.1 (by simp) rfl
    have e : putS (wtL acc) (.inl p.1) (.d (.int p.2)) = wtL (acc ++ [p]) := by rw [wt_put, put_new q]
    have ih := merge_wt ws (acc ++ [p]) (by rw [List.append_assoc]; exact nd)
    show mergeS (putS (wtL acc) (.inl p.1) (.d (.int p.2))) (wtL ws) = _
    rw [e, ih, List.append_assoc]
    rfl
section
variable {h : MH} {Q : DK} {E : DXK} {a : Addr}   {w : Int}
end

/-! ### who waits for whom -/
section
variable {h : MH} {Q : DK} {E : DXK} {a : Addr}   {w o : Int}
theorem optE_none {x : Option Int} : isNone (.d (optE x)) = x.isNone := by cases x <;> rfl
theorem look_optE {x : Option Int} : (x.map fun y => SV.d (.int y)).getD (.d .none) = .d (optE x) := by cases x <;> rfl
end

/-! ### what one asks the own table -/
section
variable {h : MH} {Q : DK} {E : DXK} {a : Addr}   {w r : Int}
theorem eqv_optI {o : Option Int} {x : Int} : PyData.eqv (optE o) (.int x) = decide (o = some x) := by
  cases o with
  | none => simp [optE, PyData.eqv]
  | some e =>
    show PyData.eqv (.int e) (.int x) = _
    rw [eqv_int]
    by_cases z : e = x
    · subst z; simp
    · rw [decide_eq_false z, decide_eq_false fun y => z (by cases y; rfl)]
end

/-! ### what the table tells -/
section
variable {h : MH} {Q : DK} {E : DXK} {t : Addr}   {n m : Nat} {w r o : Int}
theorem shaped_il (ns : List Int) : SeqAt.shaped (.list (ns.map PyData.int)) = true := shaped_ok (n := 1) (by decide) (by simp [dOk])
theorem any_inW {x : Int} {ns : List Int} : ((ns.map PyData.int).any fun z => PyData.eqv z (.int x)) = decide (x ∈ ns) := by
  rw [List.any_map]
  induction ns with
  | nil => rfl
  | cons y r ih =>
    rw [List.any_cons, ih]
    show (decide (y = x) || decide (x ∈ r)) = _
    by_cases e : y = x
    · subst e; simp
    · have e' : ¬ x = y := fun z => e z.symm
      simp [e, e']
end

/-! ### draws for the own table -/
theorem pow_w1 {x c : Int} (h0 : 0 ≤ c) (h1 : c ≤ 10 ^ 9) : CPow (x.fmod 1000081 + 5189 * c + 47) 5 := by
  obtain ⟨z1, z2⟩ := fmod_in (i := x) (m := 1000081) (by decide)
  exact ⟨by omega, by omega, by omega⟩
theorem pow_w2 {x c : Int} (h0 : 0 ≤ c) (h1 : c ≤ 10 ^ 9) : CPow (x.fmod 2147483647 + 80021 * c) 5 := by
  obtain ⟨z1, z2⟩ := fmod_in (i := x) (m := 2147483647) (by decide)
  exact ⟨by omega, by omega, by omega⟩
section
variable {h : MH} {Q : DK} {E : DXK} {a t : Addr}   {w r : Int} {n : Nat} {sc : List Int} {C m : Int} {o : MO}
theorem w_tapeW {ns : List Int} (k : ∀ p o, h p = none → Fd (ns.take 63) 0 o → Q (.own p) (mput h p o)) : W__law_tape [.d (.list (ns.map PyData.int))] h Q E := by
  refine fnW_mk rfl ?_
  unfold t__law_tape
  show dRet _ _ [some (.d (.list (ns.map PyData.int)))] h
  walk_at "dl"
  have e : cutD (ns.map PyData.int) none (some 63) = (ns.take 63).map PyData.int := by
    unfold cutD
    rw [HT.sIx_none, show HT.sIx (ns.map PyData.int).length (ns.map PyData.int).length (some 63) = min 63 (ns.map PyData.int).length from HT.sIx_nat _ _ 63, List.drop_zero, Nat.sub_zero, List.map_take]
    exact List.take_eq_take_iff.mpr (by omega)
  rw [e]
  intro p hp
  refine e_rt ?_
  rw [restr_new hp]
  exact k p _ hp ⟨0, 0, 0, rfl, by omega, by omega, by omega⟩
theorem w_drawT (ht : h t = some o) (F : Fd sc C o) (hC : C ≤ 10 ^ 8) (hm : 1 ≤ m ∧ m ≤ 10 ^ 6) (k : ∀ v o', 0 ≤ v → v < m → Fd sc (C + 1) o' → Q (.d (.int v)) (mput h t o')) : W__law_draw [.own t, .d (.int m)] h Q E := by
  obtain ⟨i, p, c, rfl, hi, hc, hcC⟩ := F
  have hsome : (h t).isSome = true := by rw [ht]; rfl
  have fin : ∀ (v : Int) (i' p' c' : Int), 0 ≤ v → v < m → 0 ≤ i' → 0 ≤ c' → c' ≤ C + 1 → Q (.d (.int v)) (restr h (mput h t (.lst [.list (sc.map PyData.int), .int i', .int p', .int c'])) (.d (.int v))) := fun v i' p' c' h1 h2 h3 h4 h5 => by
    rw [restr_putd hsome, restr_self]
    exact k v _ h1 h2 ⟨i', p', c', rfl, h3, h4, h5⟩
  have md : ∀ j : Int, 0 ≤ j.fmod m ∧ j.fmod m < m := fun j => fmod_in hm.1
  refine fnW_mk rfl ?_
  unfold t__law_draw
  show dSeq _ _ _ [some (.own t), some (.d (.int m)), none, none, none, none, none] h
  walk_at "dl"
  refine k_if (fun q => ?_) fun q => ?_
  · walk_at "dl"
    exact fin _ _ _ _ (md _).1 (md _).2 hi (by omega) (by omega)
  · walk_at "dl"
    refine r_ne rfl rfl (shaped_ints _) rfl ?_
    walk_at "dl"
    refine k_ifE (fun q2 => ?_) fun q2 => ?_
    case' refine_1 =>
      have hn : 1 ≤ sc.length := by
        cases sc with
        | nil => simp [PyData.eqv, PyData.eqvAll] at q2
        | cons _ _ => simp
      walk_at "dl"
      obtain ⟨z1, z2⟩ := fmod_in (i := i) (m := ((sc.map PyData.int).length : Nat)) (by rw [List.length_map]; omega)
      refine r_mod (by rw [List.length_map]; omega) ?_
      obtain ⟨x, hx⟩ := at_ints (ns := sc) z1 (by simpa using z2)
      refine r_ixL hx ?_
      clear z1 z2 hx
    all_goals
      walk_at "dl"
      refine k_and (fun q3 => ?_) fun q3 => ?_
      case' refine_1 =>
        walk_at "dl"
        refine k_if (fun q4 => ?_) fun q4 => ?_
        case' refine_1 =>
          walk_at "dl"
          exact fin _ _ _ _ (md _).1 (md _).2 (by omega) (by omega) (by omega)
      case' refine_2 =>
        refine k_ifF ?_
      all_goals
        walk_at "dl"
        refine r_pow (pow_w1 (by omega) (by omega)) ?_
        walk_at "dl"
        refine r_pow (pow_w2 (by omega) (by omega)) ?_
        walk_at "dl"
        exact fin _ _ _ _ (md _).1 (md _).2 (by omega) (by omega) (by omega)
end

local macro_rules | `(tactic| walk_at "dl1") => `(tactic| first
  | with_reducible refine e_isT ?_
  | with_reducible refine k_isTup ?_
  | with_reducible refine k_isLst ?_
  | with_reducible refine k_isStr ?_
  | with_reducible refine k_isBool ?_
  | with_reducible refine k_isInt ?_)
/-! ### k02: fates by kind -/
/-! the numbers -/
/-! ### more -/
section
variable {h : MH} {Q : DK} {E : DXK} {c0 v0 w0 : PyData} {fs : List Fate} {vw : List Int} {w : Int}
end
section
variable {h : MH} {Q : DK} {E : DXK} {c0 v0 w0 : PyData} {fs : List Fate} {vers : List Ver}
end
/-! tuples as targets -/
section
variable {D : DEnds} {σ : DSt} {h : MH}
end

/-! ### texts of numbers -/
theorem ge_fold {f : Nat → Nat} : ∀ (l : List Nat) (a : Nat), (∀ c ∈ l, f c = 1) → l.foldl (fun n c => n + f c) a = a + l.length
  | [], a, _ => rfl
  | c :: l, a, h => by
    rw [List.foldl_cons, List.length_cons, ge_fold l (a + f c) (fun x hx => h x (List.mem_cons_of_mem _ hx)), h c List.mem_cons_self]
    omega
def dgS : List Nat := [45, 48, 49, 50, 51, 52, 53, 54, 55, 56, 57]
theorem dg_one : ∀ c ∈ dgS, (Builtin.Str.reprChar 39 c).length = 1 ∧ (Builtin.Str.reprChar 34 c).length = 1 ∧ c < 1114112 := by decide +kernel
theorem dg_in (i : Int) : ∀ c ∈ (Str.ofString (toString i)).cps.toList, c ∈ dgS := fun c hc => by
  have e : (Str.ofString (toString i)).cps.toList = (toString i).toList.map Char.toNat := by
    show (cpsOfBytes 0 0 (toString i).toByteArray.data.toList).toArray.toList = _
    rw [cpsOfBytes_string]
  rw [e] at hc
  obtain ⟨x, hx, rfl⟩ := List.mem_map.mp hc
  rcases int_sign i x hx with z | rfl
  · have r := digit_range z
    have m : ∀ n : Nat, 48 ≤ n → n ≤ 57 → n ∈ dgS := fun n a b => by
      have : n = 48 ∨ n = 49 ∨ n = 50 ∨ n = 51 ∨ n = 52 ∨ n = 53 ∨ n = 54 ∨ n = 55 ∨ n = 56 ∨ n = 57 := by omega
      rcases this with rfl | rfl | rfl | rfl | rfl | rfl | rfl | rfl | rfl | rfl <;> decide
    exact m _ r.1 r.2
  · decide
theorem num_text {i : Int} (h : i.natAbs < 10 ^ 55) : (PySem.PyData.strOk (Str.ofString (toString i)) && decide ((reprText (Str.ofString (toString i))).length ≤ 60)) = true := by
  have hl : (Str.ofString (toString i)).length ≤ 56 := by
    rw [PySem.ofString_length]
    exact int_text_length_le10 (k := 55) (by decide) h
  have hin := dg_in i
  generalize Str.ofString (toString i) = z at hl hin
  have e := reprLen_eq z
  rw [← Array.foldl_toList] at e
  have g := ge_fold (f := fun c => (Builtin.Str.reprChar (reprQuote z) c).length) z.cps.toList 2 fun c hc => by
    have s := dg_one c (hin c hc)
    have q : reprQuote z = 34 ∨ reprQuote z = 39 := by
      unfold reprQuote
      split
      · exact .inl rfl
      · exact .inr rfl
    show (Builtin.Str.reprChar (reprQuote z) c).length = 1
    rcases q with q | q
    · rw [q]; exact s.2.1
    · rw [q]; exact s.1
  have e1 : PySem.PyData.strOk z = true := by
    unfold PySem.PyData.strOk
    rw [Array.all_eq_true]
    intro j hj
    have m : z.cps[j] ∈ z.cps.toList := Array.getElem_mem_toList hj
    exact decide_eq_true (dg_one _ (hin _ m)).2.2
  have e2 : z.length = z.cps.toList.length := by rw [Array.length_toList]; rfl
  rw [e1, Bool.true_and]
  exact decide_eq_true (by omega)
/-! ### things of bounded numbers and sizes -/
def zOk (B : Nat) : Nat → PyData → Bool
  | _, .none => true
  | _, .bool _ => true
  | _, .int i => decide (i.natAbs ≤ B)
  | _, .str x => PySem.PyData.strOk x && decide ((reprText x).length ≤ 60)
  | n + 1, .list xs => xs.all (zOk B n)
  | n + 1, .tuple xs => xs.all (zOk B n)
  | 0, .list _ => false
  | 0, .tuple _ => false
  | _, .dict _ => false
section
variable {B B' n n' c c' : Nat} {xs ys : List PyData} {d : PyData}
theorem zOk_tup : zOk B (n + 1) (.tuple xs) = true ↔ ∀ x ∈ xs, zOk B n x = true := by rw [zOk, List.all_eq_true]
theorem zOk_lst : zOk B (n + 1) (.list xs) = true ↔ ∀ x ∈ xs, zOk B n x = true := by rw [zOk, List.all_eq_true]
theorem zOk_int {i : Int} : zOk B n (.int i) = true ↔ i.natAbs ≤ B := by cases n <;> exact decide_eq_true_iff
theorem zOk_up (hB : B ≤ B') : ∀ (n n' : Nat) (d : PyData), n ≤ n' → zOk B n d = true → zOk B' n' d = true
  | n, n', .none, _, _ => by cases n' <;> rfl
  | n, n', .bool _, _, _ => by cases n' <;> rfl
  | n, n', .int i, _, h => zOk_int.mpr (Nat.le_trans (zOk_int.mp h) hB)
  | n, n', .str x, _, h => by cases n <;> cases n' <;> exact h
  | n + 1, n' + 1, .list xs, hn, h => zOk_lst.mpr fun x hx => zOk_up hB n n' x (by omega) (zOk_lst.mp h x hx)
  | n + 1, n' + 1, .tuple xs, hn, h => zOk_tup.mpr fun x hx => zOk_up hB n n' x (by omega) (zOk_tup.mp h x hx)
  | n + 1, 0, _, hn, _ => absurd hn (by omega)
  | 0, _, .list xs, _, h => by simp [zOk] at h
  | 0, _, .tuple xs, _, h => by simp [zOk] at h
  | n, _, .dict _, _, h => by cases n <;> simp [zOk] at h
theorem zOk_bOk (hB : B < 10 ^ 60) : ∀ (n : Nat) (d : PyData), zOk B n d = true → bOk n d = true
  | n, .none, _ => by cases n <;> rfl
  | n, .bool _, _ => by cases n <;> rfl
  | n, .int i, h => by
    have z : i.natAbs < 10 ^ 60 := Nat.lt_of_le_of_lt (zOk_int.mp h) hB
    cases n <;> exact decide_eq_true z
  | n, .str x, h => by cases n <;> exact h
  | n + 1, .list xs, h => by
    simp only [bOk]
    exact List.all_eq_true.mpr fun x hx => zOk_bOk hB n x (zOk_lst.mp h x hx)
  | n + 1, .tuple xs, h => by
    simp only [bOk]
    exact List.all_eq_true.mpr fun x hx => zOk_bOk hB n x (zOk_tup.mp h x hx)
  | 0, .list xs, h => by simp [zOk] at h
  | 0, .tuple xs, h => by simp [zOk] at h
  | n, .dict _, h => by cases n <;> simp [zOk] at h
/-- numbers at most B, depth at most n, at most c things in all -/
structure Zb (B n c : Nat) (d : PyData) : Prop where
  ok : zOk B n d = true
  sz : nodes n d ≤ c
  lo : B ≤ 10 ^ 50
theorem Zb.big (h : Zb B n c d) : Big n c d := ⟨zOk_bOk (Nat.lt_of_le_of_lt h.lo (by decide +kernel)) n d h.ok, h.sz⟩
theorem Zb.up (h : Zb B n c d) (hB : B ≤ B' := by first | decide +kernel | omega) (hn : n ≤ n' := by first | decide | omega) (hc : c ≤ c' := by first | decide | omega) (lo : B' ≤ 10 ^ 50 := by first | decide +kernel | omega) : Zb B' n' c' d :=
  ⟨zOk_up hB n n' d hn h.ok, (h.big.up hn hc).2, lo⟩
theorem Zb.shaped (h : Zb B n c d) (hn : n ≤ 64 := by first | decide | omega) : SeqAt.shaped d = true := h.big.shaped hn
theorem Zb.repr (h : Zb B n c d) (hn : n ≤ 32 := by first | decide | omega) (hc : c ≤ 250000 := by first | decide | omega) : reprOk d := h.big.repr hn hc
theorem zb_tup (lo : B ≤ 10 ^ 50) (h : ∀ x ∈ xs, zOk B n x = true) (s : BigL n c xs) : Zb B (n + 1) (c + 1) (.tuple xs) := ⟨zOk_tup.mpr h, s.tup.2, lo⟩
theorem zb_lst (lo : B ≤ 10 ^ 50) (h : ∀ x ∈ xs, zOk B n x = true) (s : BigL n c xs) : Zb B (n + 1) (c + 1) (.list xs) := ⟨zOk_lst.mpr h, s.lst.2, lo⟩
theorem zb_int {i : Int} (lo : B ≤ 10 ^ 50) (h : i.natAbs ≤ B) : Zb B n 1 (.int i) := ⟨zOk_int.mpr h, by cases n <;> exact Nat.le_refl 1, lo⟩
theorem zb_str {x : Str} (lo : B ≤ 10 ^ 50) (h : (PySem.PyData.strOk x && decide ((reprText x).length ≤ 60)) = true) : Zb B n 1 (.str x) := ⟨by cases n <;> exact h, by cases n <;> exact Nat.le_refl 1, lo⟩
theorem zb_bool {b : Bool} (lo : B ≤ 10 ^ 50) : Zb B n 1 (.bool b) := ⟨by cases n <;> rfl, by cases n <;> exact Nat.le_refl 1, lo⟩
end
theorem isInt_of {d : PyData} (h1 : isIntB d = true) (h2 : isBoolB d = false) : ∃ i, d = .int i := by
  cases d <;> first | exact ⟨_, rfl⟩ | (cases h2; done) | (cases h1; done)
theorem logZ {i : Int} (h : i.natAbs ≤ 10 ^ 50) : i.natAbs.log2 < 1920 := by
  by_cases q : i.natAbs = 0
  · rw [q]; decide
  · exact Nat.lt_trans ((Nat.log2_lt (k := 200) q).mpr (Nat.lt_of_le_of_lt h (by decide +kernel))) (by decide)

/-! ### a thing otherwise at a place -/
theorem cut_fromB {xs : List PyData} {n : Nat} : cutD xs (some (n : Int)) none = xs.drop n := by
  unfold cutD
  rw [HT.sIx_nat, HT.sIx_none]
  by_cases q : n ≤ xs.length
  · rw [Nat.min_eq_left q]
    exact List.take_of_length_le (by rw [List.length_drop]; omega)
  · rw [Nat.min_eq_right (by omega), List.drop_of_length_le (Nat.le_refl _), List.drop_of_length_le (by omega), List.take_nil]
section
variable {h : MH} {Q : DK} {E : DXK} {σ : DSt}
theorem log_textZ {B n c : Nat} {i : Int} (h : Zb B n c (.int i)) : (PySem.PyData.strOk (Str.ofString (toString i)) && decide ((reprText (Str.ofString (toString i))).length ≤ 60)) = true := num_text (Nat.lt_of_le_of_lt (zOk_int.mp h.ok) (Nat.lt_of_le_of_lt h.lo (by decide +kernel)))
end
theorem w_bentZ {sc : List Int} {ms : List PyData} (hs : sc.length ≤ 63) (hms : 1 ≤ ms.length ∧ ms.length ≤ 100) {B : Nat} (hB1 : 1 ≤ B) (hB : 2 * B + 1 ≤ 10 ^ 50) (hM : ∀ x ∈ ms, Zb B 1 3 x) : ∀ (N n c : Nat) (d : PyData) {h : MH} {a : Addr} {o : MO} {C : Int} {Q : DK} {E : DXK}, n < N → n ≤ 20 → c ≤ 100000 → Zb B n c d → h a = some o → Fd sc C o → C + 5 * (n + 1) ≤ 10 ^ 7 →
    (k : ∀ d' o', Zb (2 * B + 1) (n + 1) (2 * c + 3) d' → Fd sc (C + 5 * (n + 1)) o' → Q (.d d') (mput h a o')) → R__law_bent N [.own a, .d d, .d (.list ms)] h Q E
  | 0, n, c, d, _, _, _, _, _, _, hn, _, _, _, _, _, _, _ => absurd hn (by omega)
  | N + 1, n, c, d, h, a, o, C, Q, E, hn, hn4, hc, hd, ha, F, hC, k => by
    have hsome := fd_some ha
    have lo := hd.lo
    have cp := hd.big.pos
    show fnW _ _ _ _ _ _ _
    refine fnW_mk rfl ?_
    unfold t__law_bent
    show dSeq _ _ _ [some (.own a), some (.d d), some (.d (.list ms)), none, none, none, none] h
    have rest2 : ∀ (o' : MO) (way : Int) (od : PyData) (x5 x6 : Option SV), 0 ≤ way → way < 9 → Zb B 1 3 od → Fd sc (C + 4) o' → (isTupB d && decide (way < 6)) = false → (dSeq (dIfS (dAnd (dTest (dIsT (dVar 1) "int")) (dAnd (dNot (dTest (dIsT (dVar 1) "bool"))) (dTest (dOp rdLt (dVar 3) (dC (.int 7)))))) (dRet (dOp rdIx (dL (fLst (dCons (dOp rdAdd (dVar 1) (dC (.int 1))) (dCons (dOp rdSub (dVar 1) (dC (.int 1))) (dCons (dC (.int 0)) (dCons (dOp rdSub (dC (.int 0)) (dVar 1)) (dCons (dOp rdEq (dVar 1) (dC (.int 1))) (dCons (dOp rdMul (dVar 1) (dC (.int 2))) (dCons (dB rdStrI (dCons (dVar 1) dNil)) dNil))))))))) (dVar 3))) dNext)
  (dRet (dVar 4)))  (dEnd h Q) [some (.own a), some (.d d), some (.d (.list ms)), some (.d (.int way)), some (.d od), x5, x6] (mput h a o') := fun o' way od x5 x6 w0 w1 hod F' nt => by
      have menu : (dRet (dVar 4))  (dEnd h Q) [some (.own a), some (.d d), some (.d (.list ms)), some (.d (.int way)), some (.d od), x5, x6] (mput h a o') := by
        refine e_ret (e_var rfl ?_)
        refine e_rt (h0 := h) ?_
        rw [restr_putd hsome, restr_self]
        exact k od o' hod.up (F'.up (by push_cast; omega))
      walk_at "dl"
      refine k_and (fun q1 => ?_) fun q1 => ?_
      case' refine_2 =>
        refine k_if (fun z => by cases z) fun _ => ?_
        refine e_next ?_
        exact menu
      walk_at "dl"
      refine k_and (fun q2 => ?_) fun q2 => ?_
      case' refine_2 =>
        refine k_if (fun z => by cases z) fun _ => ?_
        refine e_next ?_
        exact menu
      have q2' : isBoolB d = false := by simpa using q2
      obtain ⟨i, rfl⟩ := isInt_of q1 q2'
      walk_at "dl"
      refine k_if (fun q3 => ?_) fun q3 => ?_
      case' refine_2 =>
        refine e_next ?_
        exact menu
      have w7 := of_decide_eq_true q3
      have ib := zOk_int.mp hd.ok
      walk_at "dl"
      refine b_strI (logZ (Nat.le_trans ib lo)) ?_
      walk_at "dl"
      obtain ⟨d1, e1, e2⟩ := at_get (xs := [PyData.int (i + 1), .int (i - 1), .int 0, .int (0 - i), .bool (decide (i = 1)), .int (i * 2), .str (Str.ofString (toString i))]) w0 (by simpa using w7)
      refine r_ixL e1 ?_
      refine e_rt (h0 := h) ?_
      rw [restr_putd hsome, restr_self]
      refine k d1 o' (Zb.up (B := 2 * B + 1) (n := n) (c := 1) ?_) (F'.up (by push_cast; omega))
      simp only [List.mem_cons, List.not_mem_nil, or_false] at e2
      rcases e2 with rfl | rfl | rfl | rfl | rfl | rfl | rfl
      · exact zb_int hB (by omega)
      · exact zb_int hB (by omega)
      · exact zb_int hB (by omega)
      · exact zb_int hB (by omega)
      · exact zb_bool hB
      · exact zb_int hB (by omega)
      · exact zb_str hB (log_textZ hd)
    have rest : ∀ (o' : MO) (x5 : Option SV), Fd sc (C + 1) o' → (dSeq (dAsg (dCall noX W__law_draw (dCons (dVar 0) (dCons (dC (.int 9)) dNil))) (.nm 3))
  (dSeq (dAsg (dOp rdIx (dVar 2) (dCall noX W__law_draw (dCons (dVar 0) (dCons (dB rdLen (dCons (dVar 2) dNil)) dNil)))) (.nm 4))
  (dSeq (dIfS (dAnd (dTest (dIsT (dVar 1) "tuple")) (dTest (dOp rdLt (dVar 3) (dC (.int 6))))) (dSeq (dAsg (dCall noX W__law_draw (dCons (dVar 0) (dCons (dOp rdAdd (dB rdLen (dCons (dVar 1) dNil)) (dC (.int 1))) dNil))) (.nm 5))
  (dSeq (dAsg (dL (fLst (dCons (dOp rdAdd (dSl (dVar 1) dNoPart (dPart (dVar 5))) (dSl (dVar 1) (dPart (dOp rdAdd (dVar 5) (dC (.int 1)))) dNoPart)) (dCons (dOp rdAdd (dSl (dVar 1) dNoPart (dPart (dOp rdAdd (dVar 5) (dC (.int 1))))) (dSl (dVar 1) (dPart (dVar 5)) dNoPart)) (dCons (dOp rdAdd (dSl (dVar 1) (dPart (dVar 5)) dNoPart) (dSl (dVar 1) dNoPart (dPart (dVar 5)))) dNil))))) (.nm 6))
  (dSeq (dAsg (dOp rdAdd (dVar 6) (dL (fLst (dCons (dL (fB rfList (dCons (dVar 1) dNil))) (dCons (dOp rdAdd (dOp rdAdd (dSl (dVar 1) dNoPart (dPart (dVar 5))) (dTup (dCons (dVar 4) dNil))) (dSl (dVar 1) (dPart (dVar 5)) dNoPart)) (dCons (dTup dNil) dNil)))))) (.nm 6))
  (dRet (dOp rdIx (dVar 6) (dVar 3)))))) dNext)
  (dSeq (dIfS (dAnd (dTest (dIsT (dVar 1) "int")) (dAnd (dNot (dTest (dIsT (dVar 1) "bool"))) (dTest (dOp rdLt (dVar 3) (dC (.int 7)))))) (dRet (dOp rdIx (dL (fLst (dCons (dOp rdAdd (dVar 1) (dC (.int 1))) (dCons (dOp rdSub (dVar 1) (dC (.int 1))) (dCons (dC (.int 0)) (dCons (dOp rdSub (dC (.int 0)) (dVar 1)) (dCons (dOp rdEq (dVar 1) (dC (.int 1))) (dCons (dOp rdMul (dVar 1) (dC (.int 2))) (dCons (dB rdStrI (dCons (dVar 1) dNil)) dNil))))))))) (dVar 3))) dNext)
  (dRet (dVar 4))))))  (dEnd h Q) [some (.own a), some (.d d), some (.d (.list ms)), none, none, x5, none] (mput h a o') := fun o' x5 F' => by
      walk_at "dl"
      refine w_drawT put_same F' (by omega) ⟨by decide, by decide⟩ fun way o1 w0 w1 F1 => ?_
      rw [put_put]
      walk_at "dl"
      refine w_drawT put_same F1 (by omega) ⟨by omega, by omega⟩ fun u o2 u0 u1 F2 => ?_
      rw [put_put]
      obtain ⟨od, e1, e2⟩ := at_get (xs := ms) u0 u1
      refine r_ixL e1 ?_
      walk_at "dl"
      have hod := hM od e2
      refine k_and (fun q1 => ?_) fun q1 => ?_
      case' refine_2 =>
        refine k_if (fun z => by cases z) fun _ => ?_
        refine e_next ?_
        exact rest2 _ _ _ _ _ w0 w1 hod (F2.up (by omega)) (by rw [q1]; rfl)
      walk_at "dl"
      refine k_if (fun q2 => ?_) fun q2 => ?_
      case' refine_2 =>
        refine e_next ?_
        exact rest2 _ _ _ _ _ w0 w1 hod (F2.up (by omega)) (by rw [q2, Bool.and_false])
      obtain ⟨xs, rfl⟩ := tup_of q1
      obtain ⟨n, rfl⟩ : ∃ n', n = n' + 1 := by
        cases n with
        | zero => have := hd.ok; simp [zOk] at this
        | succ n => exact ⟨n, rfl⟩
      have w6 := of_decide_eq_true q2
      have hx := zOk_tup.mp hd.ok
      have hb := hd.big.items
      have hl := hb.len
      walk_at "dl"
      refine w_drawT put_same F2 (by omega) ⟨by omega, by omega⟩ fun at_ o3 a0 a1 F3 => ?_
      rw [put_put]
      obtain ⟨i, rfl⟩ : ∃ i : Nat, at_ = i := ⟨at_.toNat, by omega⟩
      have hi : i ≤ xs.length := by omega
      have c1 : cutD xs none (some (i : Int)) = xs.take i := cut_to hi
      have c2 : cutD xs (some ((i : Int) + 1)) none = xs.drop (i + 1) := by rw [show (i : Int) + 1 = ((i + 1 : Nat) : Int) from rfl]; exact cut_fromB
      have c3 : cutD xs (some (i : Int)) none = xs.drop i := cut_fromB
      have c4 : cutD xs none (some ((i : Int) + 1)) = xs.take (i + 1) := by rw [show (i : Int) + 1 = ((i + 1 : Nat) : Int) from rfl]; exact cut_toB
      have l1 : (xs.take i).length = i := by rw [List.length_take]; omega
      have l2 : (xs.drop (i + 1)).length = xs.length - (i + 1) := List.length_drop
      have l3 : (xs.drop i).length = xs.length - i := List.length_drop
      have l4 : (xs.take (i + 1)).length ≤ xs.length := by rw [List.length_take]; omega
      have v : ∀ (ys : List PyData) (cc : Nat), cc + 1 ≤ 2 * c + 3 → (∀ y ∈ ys, y ∈ xs ∨ y = od) → BigL (n + 1) cc ys → Zb (2 * B + 1) (n + 1 + 1) (2 * c + 3) (.tuple ys) ∧ Zb (2 * B + 1) (n + 1 + 1) (2 * c + 3) (.list ys) := fun ys cc h1 h2 h3 => by
        have z : ∀ x ∈ ys, zOk (2 * B + 1) (n + 1) x = true := fun x hx' => by
          rcases h2 x hx' with q | rfl
          · exact zOk_up (by omega) _ _ _ (Nat.le_succ n) (hx x q)
          · exact zOk_up (by omega) _ _ _ (by omega) hod.ok
        exact ⟨(zb_tup hB z h3).up, (zb_lst hB z h3).up⟩
      have hb1 : BigL (n + 1) (c - 1) xs := hb.up
      have t1 : BigL (n + 1) (c - 1) (xs.take i ++ xs.drop (i + 1)) := hb1.sub (by rw [← List.eraseIdx_eq_take_drop_succ]; exact List.eraseIdx_sublist _ _)
      have t2 : BigL (n + 1) (c - 1) (xs.take i ++ xs.drop i) := by rw [List.take_append_drop]; exact hb1
      have t3 : BigL (n + 1) (c - 1 + (c - 1)) (xs.take (i + 1) ++ xs.drop i) := (hb1.sub (List.take_sublist _ _)).app (hb1.sub (List.drop_sublist _ _))
      have t4 : BigL (n + 1) (c - 1) (xs.drop i ++ xs.take i) := t2.perm List.perm_append_comm
      have t5 : BigL (n + 1) (3 + (c - 1)) (xs.take i ++ [od] ++ xs.drop i) := by
        refine (BigL.cons (hod.big.up) t2).perm ?_
        rw [List.append_assoc]
        exact List.perm_middle
      have m1 : ∀ y ∈ xs.take i, y ∈ xs := fun y hy => List.mem_of_mem_take hy
      have m2 : ∀ y ∈ xs.drop (i + 1), y ∈ xs := fun y hy => List.mem_of_mem_drop hy
      have m3 : ∀ y ∈ xs.drop i, y ∈ xs := fun y hy => List.mem_of_mem_drop hy
      have m4 : ∀ y ∈ xs.take (i + 1), y ∈ xs := fun y hy => List.mem_of_mem_take hy
      walk_at "dl"
      rw [c1, c2]
      refine r_addT (by omega) ?_
      walk_at "dl"
      rw [c4, c3]
      refine r_addT (by omega) ?_
      walk_at "dl"
      rw [c1, c3]
      refine r_addT (by omega) ?_
      walk_at "dl"
      rw [c1]
      refine r_addT (by rw [l1]; simp; omega) ?_
      walk_at "dl"
      rw [c3]
      refine r_addT (by rw [List.length_append, l1, l3]; simp; omega) ?_
      walk_at "dl"
      try refine r_addL (by simp) ?_
      walk_at "dl"
      obtain ⟨d1, e1, e2⟩ := at_get (xs := [PyData.tuple (xs.take i ++ xs.drop (i + 1)), .tuple (xs.take (i + 1) ++ xs.drop i), .tuple (xs.drop i ++ xs.take i), .list xs, .tuple (xs.take i ++ [od] ++ xs.drop i), .tuple []]) w0 (by simpa using w6)
      refine r_ixL e1 ?_
      refine e_rt (h0 := h) ?_
      rw [restr_putd hsome, restr_self]
      refine k d1 o3 ?_ (F3.up (by push_cast; omega))
      simp only [List.mem_cons, List.not_mem_nil, or_false] at e2
      rcases e2 with rfl | rfl | rfl | rfl | rfl | rfl
      · exact (v _ _ (by omega) (fun y hy => .inl ((List.mem_append.mp hy).elim (m1 y) (m2 y))) t1).1
      · exact (v _ _ (by omega) (fun y hy => .inl ((List.mem_append.mp hy).elim (m4 y) (m3 y))) t3).1
      · exact (v _ _ (by omega) (fun y hy => .inl ((List.mem_append.mp hy).elim (m3 y) (m1 y))) t4).1
      · exact (v _ _ (by omega) (fun y hy => .inl hy) hb1).2
      · refine (v _ _ (by omega) (fun y hy => ?_) t5).1
        rcases List.mem_append.mp hy with hy | hy
        · rcases List.mem_append.mp hy with hy | hy
          · exact .inl (m1 y hy)
          · exact .inr (List.mem_singleton.mp hy)
        · exact .inl (m3 y hy)
      · exact (v [] 0 (by omega) (fun y hy => by cases hy) BigL.nil).1
    have rest0 : ∀ x5 : Option SV, (dSeq (dAsg (dCall noX W__law_draw (dCons (dVar 0) (dCons (dC (.int 9)) dNil))) (.nm 3))
  (dSeq (dAsg (dOp rdIx (dVar 2) (dCall noX W__law_draw (dCons (dVar 0) (dCons (dB rdLen (dCons (dVar 2) dNil)) dNil)))) (.nm 4))
  (dSeq (dIfS (dAnd (dTest (dIsT (dVar 1) "tuple")) (dTest (dOp rdLt (dVar 3) (dC (.int 6))))) (dSeq (dAsg (dCall noX W__law_draw (dCons (dVar 0) (dCons (dOp rdAdd (dB rdLen (dCons (dVar 1) dNil)) (dC (.int 1))) dNil))) (.nm 5))
  (dSeq (dAsg (dL (fLst (dCons (dOp rdAdd (dSl (dVar 1) dNoPart (dPart (dVar 5))) (dSl (dVar 1) (dPart (dOp rdAdd (dVar 5) (dC (.int 1)))) dNoPart)) (dCons (dOp rdAdd (dSl (dVar 1) dNoPart (dPart (dOp rdAdd (dVar 5) (dC (.int 1))))) (dSl (dVar 1) (dPart (dVar 5)) dNoPart)) (dCons (dOp rdAdd (dSl (dVar 1) (dPart (dVar 5)) dNoPart) (dSl (dVar 1) dNoPart (dPart (dVar 5)))) dNil))))) (.nm 6))
  (dSeq (dAsg (dOp rdAdd (dVar 6) (dL (fLst (dCons (dL (fB rfList (dCons (dVar 1) dNil))) (dCons (dOp rdAdd (dOp rdAdd (dSl (dVar 1) dNoPart (dPart (dVar 5))) (dTup (dCons (dVar 4) dNil))) (dSl (dVar 1) (dPart (dVar 5)) dNoPart)) (dCons (dTup dNil) dNil)))))) (.nm 6))
  (dRet (dOp rdIx (dVar 6) (dVar 3)))))) dNext)
  (dSeq (dIfS (dAnd (dTest (dIsT (dVar 1) "int")) (dAnd (dNot (dTest (dIsT (dVar 1) "bool"))) (dTest (dOp rdLt (dVar 3) (dC (.int 7)))))) (dRet (dOp rdIx (dL (fLst (dCons (dOp rdAdd (dVar 1) (dC (.int 1))) (dCons (dOp rdSub (dVar 1) (dC (.int 1))) (dCons (dC (.int 0)) (dCons (dOp rdSub (dC (.int 0)) (dVar 1)) (dCons (dOp rdEq (dVar 1) (dC (.int 1))) (dCons (dOp rdMul (dVar 1) (dC (.int 2))) (dCons (dB rdStrI (dCons (dVar 1) dNil)) dNil))))))))) (dVar 3))) dNext)
  (dRet (dVar 4))))))  (dEnd h Q) [some (.own a), some (.d d), some (.d (.list ms)), none, none, x5, none] h := fun x5 => by
      have z := rest o x5 (F.up (by omega))
      rwa [put_id ha] at z
    walk_at "dl"
    refine k_and (fun q => ?_) fun q => ?_
    case' refine_2 =>
      refine k_if (fun z => by cases z) fun _ => ?_
      refine e_next ?_
      exact rest0 _
    obtain ⟨xs, rfl⟩ := tup_of q
    have hsh := hd.shaped
    obtain ⟨n, rfl⟩ : ∃ n', n = n' + 1 := by
      cases n with
      | zero => have := hd.ok; simp [zOk] at this
      | succ n => exact ⟨n, rfl⟩
    have hx := zOk_tup.mp hd.ok
    have hb := hd.big.items
    have hl := hb.len
    walk_at "dl"
    try refine r_ne (e := .tuple []) rfl rfl hsh rfl ?_
    rw [eqv_nilT]
    walk_at "dl"
    refine k_and (fun q2 => ?_) fun q2 => ?_
    case' refine_2 =>
      refine k_if (fun z => by cases z) fun _ => ?_
      refine e_next ?_
      exact rest0 _
    have h1 : 1 ≤ xs.length := by
      cases xs with
      | nil => cases q2
      | cons _ _ => simp
    walk_at "dl"
    refine w_drawT ha F (by omega) ⟨by decide, by decide⟩ fun u o1 u0 u1 F1 => ?_
    walk_at "dl"
    refine k_if (fun q3 => ?_) fun q3 => ?_
    case' refine_2 =>
      refine e_next ?_
      exact rest _ _ F1
    walk_at "dl"
    refine w_drawT put_same F1 (by omega) ⟨by omega, by omega⟩ fun at_ o2 a0 a1 F2 => ?_
    rw [put_put]
    obtain ⟨i, rfl⟩ : ∃ i : Nat, at_ = i := ⟨at_.toNat, by omega⟩
    have hi : i < xs.length := by omega
    have c1 : cutD xs none (some (i : Int)) = xs.take i := cut_to (by omega)
    have c2 : cutD xs (some ((i : Int) + 1)) none = xs.drop (i + 1) := by rw [show (i : Int) + 1 = ((i + 1 : Nat) : Int) from rfl]; exact cut_fromB
    have ix1 : atI xs (i : Int) = some xs[i] := at_nat (List.getElem?_eq_getElem hi)
    have hxi := hb.mem (List.getElem_mem hi)
    have l1 : (xs.take i).length = i := by rw [List.length_take]; omega
    have l2 : (xs.drop (i + 1)).length = xs.length - (i + 1) := List.length_drop
    obtain ⟨xi, exi⟩ : ∃ xi, xi = xs[i] := ⟨_, rfl⟩
    rw [← exi] at ix1 hxi
    have whole : xs.take i ++ xi :: xs.drop (i + 1) = xs := by rw [exi, ← List.drop_eq_getElem_cons hi, List.take_append_drop]
    have mxi : xi ∈ xs := by rw [exi]; exact List.getElem_mem hi
    have sm : ((xs.take i ++ xi :: xs.drop (i + 1)).map (nodes n)).sum ≤ c - 1 := by rw [whole]; exact hb.2
    rw [List.map_append, List.sum_append, List.map_cons, List.sum_cons] at sm
    obtain ⟨ci, eci⟩ : ∃ ci, ci = nodes n xi := ⟨_, rfl⟩
    rw [← eci] at sm
    have hct : BigL n (c - 1 - ci) (xs.take i ++ xs.drop (i + 1)) := ⟨(hb.sub (by rw [← List.eraseIdx_eq_take_drop_succ]; exact List.eraseIdx_sublist _ _)).1, by
      rw [List.map_append, List.sum_append]
      omega⟩
    walk_at "dl"
    rw [c1]
    walk_at "dl"
    refine r_ixT ix1 ?_
    walk_at "dl"
    refine w_bentZ hs hms hB1 hB hM N n ci xi (by omega) (by omega) (by omega) ⟨hx _ mxi, Nat.le_of_eq eci.symm, lo⟩ put_same F2 (by push_cast at hC ⊢; omega) fun d' o3 hd' F3 => ?_
    rw [put_put]
    walk_at "dl"
    refine r_addT (by simp; omega) ?_
    walk_at "dl"
    rw [c2]
    refine r_addT (by simp; omega) ?_
    refine e_rt (h0 := h) ?_
    rw [restr_putd hsome, restr_self]
    refine k _ o3 ?_ (F3.up (by push_cast; omega))
    have t5 : BigL (n + 1) (2 * ci + 3 + (c - 1 - ci)) (xs.take i ++ [d'] ++ xs.drop (i + 1)) := by
      refine (BigL.cons hd'.big (hct.up (m := n + 1) (c' := c - 1 - ci))).perm ?_
      rw [List.append_assoc]
      exact List.perm_middle
    refine (zb_tup hB (fun y hy => ?_) t5).up (hc := by omega)
    have old : ∀ y ∈ xs, zOk (2 * B + 1) (n + 1) y = true := fun y hy => zOk_up (by omega) _ _ _ (Nat.le_succ n) (hx y hy)
    rcases List.mem_append.mp hy with hy | hy
    · rcases List.mem_append.mp hy with hy | hy
      · exact old y (List.mem_of_mem_take hy)
      · rw [List.mem_singleton.mp hy]; exact hd'.ok
    · exact old y (List.mem_of_mem_drop hy)


/-! ### rings of waits -/
def ringF (ws : List (Int × Int)) (n : Int) : Nat → List Int → Int → Option (List Int)
  | 0, _, _ => none
  | f + 1, acc, x => match lookW ws x with
    | none => none
    | some y => if y = n then some (acc ++ [x]) else ringF ws n f (acc ++ [x]) y
def ringOf (ws : List (Int × Int)) (n : Int) : Option (List Int) := ringF ws n ws.length [] n
def ringE : Option (List Int) → PyData
  | none => .none
  | some l => .tuple (l.map PyData.int)
theorem ring_shut {ws : List (Int × Int)} {n : Int} {T : Int → Prop} (hn : ¬ T n) (cl : ∀ x, T x → ∃ y, lookW ws x = some y ∧ T y) : ∀ (f : Nat) (acc : List Int) (x : Int), T x → ringF ws n f acc x = none
  | 0, _, _, _ => rfl
  | f + 1, acc, x, h => by
    obtain ⟨y, e, ty⟩ := cl x h
    unfold ringF
    rw [e]
    show (if y = n then some (acc ++ [x]) else ringF ws n f (acc ++ [x]) y) = none
    rw [if_neg (show ¬ y = n from fun z => hn (by rw [← z]; exact ty))]
    exact ring_shut hn cl f _ y ty
/-- what holds ahead of each turn of led_from -/
structure LedI (ws : List (Int × Int)) (n : Int) (acc : List Int) (here : Option Int) : Prop where
  nd : acc.Nodup
  hd : n ∈ acc ∨ here = some n
  no : here = none → ringOf ws n = none
  key : ∀ x, here = some x → ∀ z ∈ acc, ∃ y, lookW ws z = some y ∧ (y ∈ acc ∨ y = x)
  inn : ∀ x, here = some x → x ∈ acc → ringOf ws n = if x = n then some acc else none
  out : ∀ x, here = some x → x ∉ acc → ringF ws n (ws.length - acc.length) acc x = ringOf ws n ∧ ∀ z ∈ acc, ∃ y, lookW ws z = some y ∧ y ≠ n ∧ (y ∈ acc ∨ y = x)
theorem ledI_0 (ws : List (Int × Int)) (n : Int) : LedI ws n [] (some n) where
  nd := List.nodup_nil
  hd := .inr rfl
  no := fun z => by cases z
  key := fun _ _ z hz => by cases hz
  inn := fun _ _ z => by cases z
  out := fun x e _ => by
    cases e
    exact ⟨rfl, fun z hz => by cases hz⟩
theorem keys_few {ws : List (Int × Int)} {l : List Int} (nd : l.Nodup) (h : ∀ z ∈ l, ∃ y, lookW ws z = some y) : l.length ≤ ws.length := by
  have := len_subF l (ws.map (·.1)) nd fun z hz => by
    obtain ⟨y, e⟩ := h z hz
    exact List.mem_map.mpr ⟨_, look_some e, rfl⟩
  rwa [List.length_map] at this
theorem LedI.few {ws : List (Int × Int)} {n x : Int} {acc : List Int} (I : LedI ws n acc (some x)) : acc.length ≤ ws.length := keys_few I.nd fun z hz => (I.key x rfl z hz).imp fun _ q => q.1
theorem LedI.step {ws : List (Int × Int)} {n x : Int} {acc : List Int} (I : LedI ws n acc (some x)) (nx : x ∉ acc) : LedI ws n (acc ++ [x]) (lookW ws x) := by
  obtain ⟨o1, o2⟩ := I.out x rfl nx
  have nd : (acc ++ [x]).Nodup := List.nodup_append.mpr ⟨I.nd, by simp, fun a ha b hb e => nx (by rw [List.mem_singleton.mp hb] at e; rw [← e]; exact ha)⟩
  have hn : n ∈ acc ++ [x] := by
    rcases I.hd with z | z
    · exact List.mem_append_left _ z
    · cases z; simp
  have inA : ∀ {y}, y ∈ acc ∨ y = x → y ∈ acc ++ [x] := fun z => z.elim (fun q => List.mem_append_left _ q) fun q => by rw [q]; simp
  cases e : lookW ws x with
  | none =>
    refine ⟨nd, .inl hn, fun _ => ?_, (fun _ z => by cases z), (fun _ z => by cases z), fun _ z => by cases z⟩
    rw [← o1]
    cases ws.length - acc.length with
    | zero => rfl
    | succ f => unfold ringF; rw [e]
  | some y =>
    have key : ∀ z ∈ acc ++ [x], ∃ y', lookW ws z = some y' ∧ (y' ∈ acc ++ [x] ∨ y' = y) := fun z hz => by
      rcases List.mem_append.mp hz with q | q
      · obtain ⟨y', a, _, b⟩ := o2 z q
        exact ⟨y', a, .inl (inA b)⟩
      · rw [List.mem_singleton.mp q]
        exact ⟨y, e, .inr rfl⟩
    have few := keys_few nd fun z hz => (key z hz).imp fun _ q => q.1
    rw [List.length_append, List.length_singleton] at few
    obtain ⟨f, ef⟩ : ∃ f, ws.length - acc.length = f + 1 := ⟨ws.length - acc.length - 1, by omega⟩
    have ef2 : ws.length - (acc ++ [x]).length = f := by rw [List.length_append, List.length_singleton]; omega
    have r1 : ringOf ws n = if y = n then some (acc ++ [x]) else ringF ws n f (acc ++ [x]) y := by
      rw [← o1, ef]
      conv => lhs; unfold ringF
      rw [e]
    refine ⟨nd, .inl hn, (fun z => by cases z), fun y' e' => ?_, fun y' e' m => ?_, fun y' e' m => ?_⟩ <;> cases e'
    · exact key
    · rw [r1]
      by_cases q : y = n
      · rw [if_pos q, if_pos q]
      · rw [if_neg q, if_neg q]
        refine ring_shut (T := fun z => z ∈ acc ++ [x] ∧ z ≠ n) (fun z => z.2 rfl) (fun z hz => ?_) f _ y ⟨m, q⟩
        rcases List.mem_append.mp hz.1 with w | w
        · obtain ⟨y', a, b, c⟩ := o2 z w
          exact ⟨y', a, inA c, b⟩
        · rw [List.mem_singleton.mp w]
          exact ⟨y, e, m, q⟩
    · have q : y ≠ n := fun z => m (by rw [z]; exact hn)
      rw [r1, if_neg q, ef2]
      refine ⟨rfl, fun z hz => ?_⟩
      rcases List.mem_append.mp hz with w | w
      · obtain ⟨y', a, b, c⟩ := o2 z w
        exact ⟨y', a, b, .inl (inA c)⟩
      · rw [List.mem_singleton.mp w]
        exact ⟨y, e, q, .inr rfl⟩
theorem LedI.ends {ws : List (Int × Int)} {n : Int} {acc : List Int} {here : Option Int} (I : LedI ws n acc here) (h : ∀ x, here = some x → x ∈ acc) : (if here = some n then some acc else none) = ringOf ws n := by
  cases here with
  | none => rw [I.no rfl]; rfl
  | some x =>
    rw [I.inn x rfl (h x rfl)]
    by_cases q : x = n
    · rw [if_pos q, if_pos (by rw [q])]
    · rw [if_neg q, if_neg fun z => q (Option.some.inj z)]
section
variable {h : MH} {Q : DK} {E : DXK} {n : Int}
/-- where waits lead to, and what comes then -/
theorem w_led {a : Addr} {ws : List (Int × Int)} (dw : h a = some (.dct (wtL ws))) (hl : ws.length ≤ 1000) (k : ∀ (found : List Int) (last : Option Int), found.length ≤ 1001 → (if last = some n then some found else none) = ringOf ws n → Q (.d (.tuple [.list (found.map PyData.int), optE last])) h) : W_led_from [.own a, .d (.int n)] h Q E := by
  refine fnW_mk rfl ?_
  unfold t_led_from
  show dSeq _ _ _ [some (.own a), some (.d (.int n)), none, none] h
  refine e_seq (e_asg (e_Own (e_lst (e_nil (k_lst rfl rfl fun p hp => k_nm ?_)))))
  dsimp only
  refine e_seq (e_asg (e_var rfl (k_nm ?_)))
  dsimp only
  have pw := ne_new dw hp
  refine e_seq ?_
  refine wh_inv (fun m σ h' => ∃ (acc : List Int) (here : Option Int), h' = mput h p (.lst (acc.map PyData.int)) ∧ σ = [some (.own a), some (.d (.int n)), some (.own p), some (.d (optE here))] ∧ LedI ws n acc here ∧ acc.length ≤ 1001 ∧
    m = ws.length + 1 - acc.length) ?_ (ws.length + 1) _ _ ⟨[], some n, rfl, rfl, ledI_0 ws n, Nat.zero_le _, rfl⟩
  rintro m σ h' K ⟨acc, here, rfl, rfl, I, al, em⟩ hK
  have hw' : mput h p (.lst (acc.map PyData.int)) a = _ := (put_other (Ne.symm pw)).trans dw
  have hp' : mput h p (.lst (acc.map PyData.int)) p = some (.lst (acc.map PyData.int)) := put_same
  have fin : ∀ (σ' : DSt), σ' = [some (.own a), some (.d (.int n)), some (.own p), some (.d (optE here))] → (∀ x, here = some x → x ∈ acc) → (dRet (dTup (dCons (dVar 2) (dCons (dVar 3) dNil)))) (dEnd h Q) σ' (mput h p (.lst (acc.map PyData.int))) := fun σ' e hx => by
    rw [e]
    refine e_ret (e_tup (e_cons (e_var rfl (e_cons (e_var rfl (e_nil ?_))))))
    refine k_tup (ds := [.list (acc.map PyData.int), optE here]) (h' := mdrop (mput h p (.lst (acc.map PyData.int))) p) (by simp [fzs, fz1, hp']) rfl ?_
    refine e_rt (h0 := h) ?_
    rw [restr_mdrop hp, restr_drop hp, restr_self]
    exact k acc here al (I.ends hx)
  refine e_and (e_test (e_op (e_var rfl (e_c (r_notN (k_test ?_))))))
  rw [optE_none]
  cases here with
  | none =>
    refine k_and (fun z => by cases z) fun _ => ?_
    refine k_wh (fun z => by cases z) fun _ => ?_
    exact fin _ rfl fun x z => by cases z
  | some x =>
    refine k_and (fun _ => ?_) fun z => by cases z
    show dTest _ [some (.own a), some (.d (.int n)), some (.own p), some (.d (.int x))] _ _
    refine e_test (e_op (e_var rfl (e_var rfl ?_)))
    refine r_notInL rfl (asL_own hp') (shaped_int _) (shaped_il _) ?_
    rw [any_inW]
    refine k_test (k_wh (fun q => ?_) fun q => ?_)
    · have nx : x ∉ acc := by simpa using q
      have few := I.few
      refine e_seq (e_drop (e_ML (e_var rfl (k_ML (asL_own hp') (e_cons (e_var rfl (e_nil ?_)))))))
      refine m_append hp' (by rw [List.length_map]; omega) ?_
      rw [put_put]
      dsimp only
      have em2 : (acc.map PyData.int) ++ [optE (some x)] = (acc ++ [x]).map PyData.int := by simp [optE]
      rw [em2]
      have hw' : mput h p (.lst ((acc ++ [x]).map PyData.int)) a = _ := (put_other (Ne.symm pw)).trans dw
      refine e_asg (e_get1 (e_var rfl (k_get1 hw' (e_var rfl (k_get1E hw' rfl rfl ?_)))))
      rw [wt_val, look_optE]
      refine k_nm ?_
      exact hK (ws.length + 1 - (acc ++ [x]).length) _ _ (by rw [em, List.length_append, List.length_singleton]; omega) ⟨acc ++ [x], lookW ws x, rfl, rfl, I.step nx, by rw [List.length_append, List.length_singleton]; omega, rfl⟩
    · have nx : x ∈ acc := by simpa using q
      exact fin _ rfl fun y z => by cases z; exact nx
theorem w_ring_from {a : Addr} {ws : List (Int × Int)} (da : h a = some (.ptp (ws.map pairD))) (nd : (ws.map (·.1)).Nodup) (hl : ws.length ≤ 1000) (k : Q (.d (ringE (ringOf ws n))) h) : W_ring_from [.own a, .d (.int n)] h Q E := by
  refine fnW_mk rfl ?_
  unfold t_ring_from
  show dSeq _ _ _ [some (.own a), some (.d (.int n)), none, none] h
  refine e_seq (e_asg (e_call (e_cons (e_B (e_cons (e_var rfl (e_nil ?_)))))))
  refine b_dictOfP da (pairsD_wt ws) fun p hp => ?_
  have em := merge_wt ws [] (by simpa using nd)
  rw [show wtL [] = [] from rfl, List.nil_append] at em
  rw [em]
  refine e_cons (e_var rfl (e_nil ?_))
  refine w_led put_same hl fun found last fl ef => ?_
  refine k_tg2 ?_
  dsimp only
  show dRet _ _ [some (.own a), some (.d (.int n)), some (.d (.list (found.map PyData.int))), some (.d (optE last))] _
  refine e_ret (e_ifE (e_test (e_op (e_var rfl (e_var rfl ?_)))))
  refine r_eq rfl rfl (by cases last <;> rfl) (shaped_int _) ?_
  rw [eqv_optI]
  refine k_test ?_
  have fin : ∀ d, d = ringE (ringOf ws n) → (dEnd h Q).rt (.d d) (mput h p (.dct (wtL ws))) := fun d e => by
    refine e_rt (h0 := h) ?_
    rw [restr_drop hp, restr_self, e]
    exact k
  refine k_ifE (fun q => ?_) fun q => ?_
  · rw [if_pos (of_decide_eq_true q)] at ef
    refine e_B (e_cons (e_var rfl (e_nil (b_tupleL ?_))))
    exact fin _ (by rw [← ef]; rfl)
  · rw [if_neg (of_decide_eq_false q)] at ef
    exact e_c (fin _ (by rw [← ef]; rfl))
end

/-! ### k48: what is due of a ring -/
inductive Pa where
  | told (n : Nat)
  | paper (w : Str) (a : Int)
def Pa.enc : Pa → PyData
  | .told n => .tuple [.str "told", .int n]
  | .paper w a => .tuple [.str "paper", .str w, .int a]
def noPa (wd : Str) (a : Int) : DExc := ⟨"NoPaper", [("word", .str wd), ("at", .int a)]⟩
def OutP : Pa → DK → DXK → MH → Prop
  | .told n, Q, _, h => Q (.d (.int n)) h
  | .paper w a, _, E, h => E (noPa w a) h
def fstNo (p : Nat → Bool) (n : Nat) : Option Nat := (List.range n).find? fun j => !p j
theorem fstNo_at {p : Nat → Bool} {n i : Nat} (h : ∀ j, j < i → p j = true) (hi : i < n) (q : p i = false) : fstNo p n = some i := by
  unfold fstNo
  rw [List.find?_range_eq_some]
  exact ⟨by rw [q]; rfl, List.mem_range.mpr hi, fun j hj => by rw [h j hj]; rfl⟩
theorem fstNo_none {p : Nat → Bool} {n : Nat} (h : ∀ j, j < n → p j = true) : fstNo p n = none := by
  unfold fstNo
  rw [List.find?_eq_none]
  exact fun j hj => by rw [h j (List.mem_range.mp hj)]; simp
def onceB (l : List Int) (k : Nat) : Bool := !decide (l.getD k 0 ∈ l.take k)
def nextB (ps : List (Int × Int)) (l : List Int) (k : Nat) : Bool := decide ((l.getD k 0, l.getD ((k + 1) % l.length) 0) ∈ ps)
def dueI (ps : List (Int × Int)) (l : List Int) : Pa := match fstNo (onceB l) l.length with
  | some k => .paper "twice" k
  | none => match fstNo (nextB ps l) l.length with
    | some k => .paper "waits" k
    | none => .told l.length
def numI : PyData → Int
  | .int i => i
  | _ => 0
def shapB (d : PyData) : Bool := isTupB d && (decide (0 < (itemsT d).length) && (itemsT d).all numB)
def dueP (ps : List (Int × Int)) (d : PyData) : Pa := if shapB d = true then dueI ps ((itemsT d).map numI) else .paper "shape" (-1)
theorem num_map (l : List Int) : (l.map PyData.int).map numI = l := by rw [List.map_map]; exact (List.map_congr_left fun _ _ => rfl).trans (List.map_id _)
theorem dueP_ints {ps : List (Int × Int)} {l : List Int} (h : 0 < l.length) : dueP ps (.tuple (l.map PyData.int)) = dueI ps l := by
  unfold dueP shapB
  rw [if_pos, show itemsT (.tuple (l.map PyData.int)) = l.map PyData.int from rfl, num_map]
  show (true && (decide (0 < (l.map PyData.int).length) && (l.map PyData.int).all numB)) = true
  rw [all_nums, List.length_map, decide_eq_true h]
  rfl
theorem plain_i : ∀ k : List Int, PyData.plainAll (k.map PyData.int) = true
  | [] => by simp [PyData.plainAll]
  | i :: k => by
    have ih := plain_i k
    rw [List.map_cons]
    simp [PyData.plainAll, PyData.plain, ih]
theorem plain_p : ∀ ps : List (Int × Int), PyData.plainAll (ps.map pairD) = true
  | [] => by simp [PyData.plainAll]
  | p :: ps => by
    have ih := plain_p ps
    rw [List.map_cons]
    simp [PyData.plainAll, PyData.plain, pairD, ih]
theorem at_one {a b : PyData} {r : List PyData} : atI (a :: b :: r) 1 = some b := show atI (a :: b :: r) ((1 : Nat) : Int) = some b from at_nat rfl
theorem enum_dropR {xs : List PyData} {i : Nat} {d : PyData} {r : List PyData} (e : d :: r = (enumD xs).drop i) : ∃ h : i < xs.length, d = .tuple [.int (i : Nat), xs[i]] ∧ r = (enumD xs).drop (i + 1) := by
  have hl : i < (enumD xs).length := by
    by_cases q : i < (enumD xs).length
    · exact q
    · rw [List.drop_of_length_le (by omega)] at e
      cases e
  have hl' : i < xs.length := by rwa [enumD_len] at hl
  rw [List.drop_eq_getElem_cons hl] at e
  injection e with e1 e2
  refine ⟨hl', ?_, e2⟩
  have z := enumD_get (ds := xs) (i := i) (List.getElem?_eq_getElem hl')
  rw [List.getElem?_eq_getElem hl] at z
  rw [e1]
  exact Option.some.inj z
theorem rg_drop48 {n i : Nat} {d : PyData} {r : List PyData} (e : d :: r = (rgD 0 (n : Int)).drop i) : i < n ∧ d = .int (i : Nat) ∧ r = (rgD 0 (n : Int)).drop (i + 1) := by
  have hlen : (rgD 0 (n : Int)).length = n := by rw [rgD_length]; omega
  have hl : i < (rgD 0 (n : Int)).length := by
    by_cases q : i < (rgD 0 (n : Int)).length
    · exact q
    · rw [List.drop_of_length_le (by omega)] at e
      cases e
  rw [List.drop_eq_getElem_cons hl] at e
  injection e with e1 e2
  refine ⟨by omega, ?_, e2⟩
  have z := rgD_get (a := 0) (b := (n : Int)) (i := i) (by omega)
  rw [List.getElem?_eq_getElem hl] at z
  rw [e1, Option.some.inj z, Int.zero_add]
theorem nonum_empty48 : ∀ ys : List PyData, (ys.filter fun y => !numB y).isEmpty = ys.all numB
  | [] => rfl
  | y :: ys => by
    rw [List.filter_cons, List.all_cons, ← nonum_empty48 ys]
    cases numB y <;> simp
theorem shaped_sub48 {B n c : Nat} {xs ys : List PyData} (hd : Zb B n c (.tuple xs)) (s : ∀ y ∈ ys, y ∈ xs) (hn : n ≤ 30) : SeqAt.shaped (.list ys) = true := by
  cases n with
  | zero => have := hd.ok; simp [zOk] at this
  | succ n =>
    refine shaped_ok (n := n + 1) (by omega) ?_
    simp only [dOk]
    exact List.all_eq_true.mpr fun y hy => bOk_dOk n y (hd.big.items.1 y (s y hy))
theorem shaped_pairs48 (ps : List (Int × Int)) : SeqAt.shaped (.list (ps.map pairD)) = true := shaped_ok (n := 2) (by decide) (by
  show (ps.map pairD).all (dOk 1) = true
  rw [List.all_map]
  exact List.all_eq_true.mpr fun _ _ => rfl)
theorem fil_pair {ps : List (Int × Int)} {a b : Int} : ((ps.filter fun p => decide (p.1 = a) && decide (p.2 = b)).map pairD).isEmpty = !decide ((a, b) ∈ ps) := by
  by_cases q : (a, b) ∈ ps
  · rw [decide_eq_true q]
    have m : (a, b) ∈ ps.filter fun p => decide (p.1 = a) && decide (p.2 = b) := List.mem_filter.mpr ⟨q, by simp⟩
    cases e : ps.filter fun p => decide (p.1 = a) && decide (p.2 = b) with
    | nil => rw [e] at m; cases m
    | cons _ _ => rfl
  · rw [decide_eq_false q, List.filter_eq_nil_iff.mpr]
    · rfl
    · intro p hp z
      rw [Bool.and_eq_true] at z
      exact q (by rw [← of_decide_eq_true z.1, ← of_decide_eq_true z.2]; exact hp)
theorem any_pair {ps : List (Int × Int)} {a b : Int} : ((ps.map pairD).any fun z => PyData.eqv z (.tuple [.int a, .int b])) = decide ((a, b) ∈ ps) := by
  rw [List.any_map]
  induction ps with
  | nil => rfl
  | cons p r ih =>
    rw [List.any_cons, ih]
    have e : PyData.eqv (pairD p) (.tuple [.int a, .int b]) = decide (p = (a, b)) := by
      obtain ⟨x, y⟩ := p
      by_cases h1 : x = a <;> by_cases h2 : y = b <;> simp [pairD, PyData.eqv, PyData.eqvAll, h1, h2]
    show (PyData.eqv (pairD p) (.tuple [.int a, .int b]) || decide ((a, b) ∈ r)) = _
    rw [e, ← Bool.decide_or]
    refine decide_eq_decide.mpr ?_
    rw [List.mem_cons]
    exact ⟨fun z => z.elim (fun q => .inl q.symm) .inr, fun z => z.elim (fun q => .inl q.symm) .inr⟩
section
variable {h : MH} {Q : DK} {E : DXK} {σ : DSt}
theorem w_need48 {b : Bool} {wd : Str} {a : Int} (k1 : b = true → Q (.d .none) h) (k2 : b = false → E (noPa wd a) h) : W_need [.d (.bool b), .d (.str wd), .d (.int a)] h Q E := by
  refine fnW_mk rfl ?_
  unfold t_need
  show dIfS _ _ _ _ [some (.d (.bool b)), some (.d (.str wd)), some (.d (.int a))] h
  walk_at "dl"
  refine k_if (fun z => ?_) fun z => ?_
  · have z' : b = false := by simpa using z
    walk_at "dl"
    rw [restrX_self]
    exact k2 z'
  · have z' : b = true := by simpa using z
    walk_at "dl"
    rw [restr_self]
    exact k1 z'
theorem getD_at {l : List Int} {i : Nat} (hi : i < l.length) : l[i] = l.getD i 0 := by rw [List.getD_eq_getElem?_getD, List.getElem?_eq_getElem hi]; rfl
theorem w_lets_ring48 {ps : List (Int × Int)} {d : PyData} {B n c : Nat} (hd : Zb B n c d) (hc : c ≤ 1000) (k : OutP (dueP ps d) Q E h) : W_lets_ring [.d (.tuple (ps.map pairD)), .d d] h Q E := by
  refine fnW_mk rfl ?_
  unfold t_lets_ring
  show dSeq _ _ _ [some (.d (.tuple (ps.map pairD))), some (.d d), none, none] h
  have bad : shapB d = false → E (noPa "shape" (-1)) h := fun z => by
    unfold dueP at k
    rw [z] at k
    exact k
  walk_at "dl"
  refine k_andV (fun q => ?_) fun q => ?_
  case' refine_2 =>
    walk_at "dl"
    refine w_need48 (fun y => by cases y) fun _ => by rw [restrX_self]; exact bad (by unfold shapB; rw [q]; rfl)
  obtain ⟨xs, rfl⟩ := tup_of q
  have hl : xs.length ≤ 1000 := by
    cases n with
    | zero => have := hd.ok; simp [zOk] at this
    | succ n => exact Nat.le_trans hd.big.items.len (by omega)
  have es : shapB (.tuple xs) = (decide (0 < xs.length) && xs.all numB) := rfl
  walk_at "dl"
  refine k_andV (fun q1 => ?_) fun q1 => ?_
  case' refine_2 =>
    have q1' : ¬ 0 < xs.length := by have := of_decide_eq_false q1; omega
    walk_at "dl"
    refine w_need48 (fun y => by cases y) fun _ => by rw [restrX_self]; exact bad (by rw [es, decide_eq_false q1']; rfl)
  have ne : 0 < xs.length := by have := of_decide_eq_true q1; omega
  walk_at "dl"
  refine ⟨by rw [sizeLine_eq]; omega, ?_⟩
  refine lc_pure (fun _ => true) (fun d => .bool (numB d)) (fun d _ => ⟨_, rfl, fun K hK => ?_, fun _ K hK => ?_⟩) ?_
  · walk_at "dl"
    exact hK
  · walk_at "dl"
    refine w_is_numberG ?_
    exact hK
  rw [List.filter_eq_self.mpr fun _ _ => rfl]
  walk_at "dl"
  refine b_allP ?_
  walk_at "dl"
  refine w_need48 (fun z => ?_) fun z => by rw [restrX_self]; exact bad (by rw [es, z, Bool.and_false])
  obtain ⟨l, rfl⟩ := nums_of z
  have ll : (l.map PyData.int).length = l.length := List.length_map _
  rw [ll] at ne hl
  rw [dueP_ints ne] at k
  clear bad es q1 q z
  walk_at "dl"
  refine for_inv (fun r σ h' => ∃ (i : Nat) (x2 x3 : Option SV), r = (enumD (l.map PyData.int)).drop i ∧ i ≤ l.length ∧ (∀ j, j < i → onceB l j = true) ∧ h = h' ∧ σ = [some (.d (.tuple (ps.map pairD))), some (.d (.tuple (l.map PyData.int))), x2, x3]) ?_ ?_ _ _ _ ⟨0, _, _, rfl, Nat.zero_le _, (fun j hj => by omega), rfl, rfl⟩
  · rintro d r σ h' K ⟨i, x2, x3, er, _, hb, rfl, rfl⟩ hK
    obtain ⟨hi, rfl, er2⟩ := enum_dropR er
    rw [ll] at hi
    rw [List.getElem_map]
    refine ⟨_, bind2, ?_⟩
    show dDrop _ _ [some (.d (.tuple (ps.map pairD))), some (.d (.tuple (l.map PyData.int))), some (.d (.int (i : Nat))), some (.d (.int l[i]))] _
    walk_at "dl"
    rw [show cutD (l.map PyData.int) none (some (i : Int)) = (l.take i).map PyData.int by rw [cut_toB, List.map_take]]
    refine r_notInT (by simp [PyData.plain]) (plain_i _) (by simp [PyData.depth]) ?_
    rw [any_inW, getD_at hi, show (!decide (l.getD i 0 ∈ l.take i)) = onceB l i from rfl]
    walk_at "dl"
    refine w_need48 (fun z => ?_) fun z => ?_
    · walk_at "dl"
      refine hK _ _ ⟨i + 1, _, _, er2, hi, fun j hj => ?_, rfl, rfl⟩
      by_cases e : j = i
      · rw [e]; exact z
      · exact hb j (by omega)
    · unfold dueI at k
      rw [fstNo_at hb hi z] at k
      rw [restrX_self]
      exact k
  rintro σ h' ⟨i0, x2, x3, er, il, hb, rfl, rfl⟩
  have ei : i0 = l.length := by
    have z := congrArg List.length er
    rw [List.length_drop, show (enumD (l.map PyData.int)).length = l.length by unfold enumD; rw [List.length_map, List.length_zipIdx, ll]] at z
    simp at z
    omega
  subst ei
  unfold dueI at k
  rw [fstNo_none hb] at k
  clear hb er il
  walk_at "dl"
  refine for_inv (fun r σ h' => ∃ (i : Nat) (x2 x3 : Option SV), r = (enumD (l.map PyData.int)).drop i ∧ i ≤ l.length ∧ (∀ j, j < i → nextB ps l j = true) ∧ h = h' ∧ σ = [some (.d (.tuple (ps.map pairD))), some (.d (.tuple (l.map PyData.int))), x2, x3]) ?_ ?_ _ _ _ ⟨0, _, _, rfl, Nat.zero_le _, (fun j hj => by omega), rfl, rfl⟩
  · rintro d r σ h' K ⟨i, x2, x3, er, _, hb, rfl, rfl⟩ hK
    obtain ⟨hi, rfl, er2⟩ := enum_dropR er
    rw [ll] at hi
    rw [List.getElem_map]
    refine ⟨_, bind2, ?_⟩
    show dDrop _ _ [some (.d (.tuple (ps.map pairD))), some (.d (.tuple (l.map PyData.int))), some (.d (.int (i : Nat))), some (.d (.int l[i]))] _
    have hm : (i + 1) % l.length < l.length := Nat.mod_lt _ ne
    have em : ((i : Int) + 1).fmod ((l.map PyData.int).length : Nat) = (((i + 1) % l.length : Nat) : Int) := by
      rw [ll, Int.fmod_eq_emod_of_nonneg _ (by omega)]
      push_cast
      rfl
    walk_at "dl"
    try refine r_mod (by rw [ll]; omega) ?_
    rw [em]
    refine r_ixT (d := .int l[(i + 1) % l.length]) (at_nat (by rw [List.getElem?_map, List.getElem?_eq_getElem hm]; rfl)) ?_
    walk_at "dl"
    refine r_inT (by simp [PyData.plain, PyData.plainAll]) (plain_p _) (by simp [PyData.depth, PyData.depthAll]) ?_
    rw [any_pair, getD_at hi, getD_at hm, show decide ((l.getD i 0, l.getD ((i + 1) % l.length) 0) ∈ ps) = nextB ps l i from rfl]
    walk_at "dl"
    refine w_need48 (fun z => ?_) fun z => ?_
    · walk_at "dl"
      refine hK _ _ ⟨i + 1, _, _, er2, hi, fun j hj => ?_, rfl, rfl⟩
      by_cases e : j = i
      · rw [e]; exact z
      · exact hb j (by omega)
    · rw [fstNo_at hb hi z] at k
      rw [restrX_self]
      exact k
  rintro σ h' ⟨i0, x2, x3, er, il, hb, rfl, rfl⟩
  have ei : i0 = l.length := by
    have z := congrArg List.length er
    rw [List.length_drop, show (enumD (l.map PyData.int)).length = l.length by unfold enumD; rw [List.length_map, List.length_zipIdx, ll]] at z
    simp at z
    omega
  subst ei
  rw [fstNo_none hb] at k
  walk_at "dl"
  rw [restr_self, ll]
  exact k
theorem w_law_due48 {ps : List (Int × Int)} {d : PyData} {B n c : Nat} (hd : Zb B n c d) (hc : c ≤ 1000) (hps : ps.length ≤ 1000) (hn : n ≤ 30) (k : Q (.d (dueP ps d).enc) h) : W__law_due [.d (.tuple (ps.map pairD)), .d d] h Q E := by
  refine fnW_mk rfl ?_
  unfold t__law_due
  show dSeq _ _ _ [some (.d (.tuple (ps.map pairD))), some (.d d), none, none, none, none] h
  have bad : shapB d = false → Q (.d (Pa.paper "shape" (-1)).enc) h := fun z => by
    unfold dueP at k
    rw [z] at k
    exact k
  walk_at "dl"
  refine k_or (fun q => ?_) fun q => ?_
  · refine k_if (fun _ => ?_) fun z => by cases z
    walk_at "dl"
    rw [restr_self]
    exact bad (by unfold shapB; rw [show isTupB d = false by simpa using q]; rfl)
  obtain ⟨xs, rfl⟩ := tup_of (d := d) (by simpa using q)
  have hsh := hd.shaped (by omega)
  have hl : xs.length ≤ 1000 := by
    cases n with
    | zero => have := hd.ok; simp [zOk] at this
    | succ n => exact Nat.le_trans hd.big.items.len (by omega)
  have es : shapB (.tuple xs) = (decide (0 < xs.length) && xs.all numB) := rfl
  walk_at "dl"
  try refine r_eq (e := .tuple []) rfl rfl hsh rfl ?_
  rw [eqv_nilT]
  walk_at "dl"
  refine k_if (fun q1 => ?_) fun q1 => ?_
  · walk_at "dl"
    rw [restr_self]
    refine bad ?_
    rw [es]
    cases xs with
    | nil => rfl
    | cons _ _ => cases q1
  have ne : 0 < xs.length := by
    cases xs with
    | nil => cases q1
    | cons _ _ => exact Nat.succ_pos _
  walk_at "dl"
  refine ⟨by rw [sizeLine_eq]; omega, ?_⟩
  refine lc_pure (fun y => !numB y) (fun y => y) (fun y _ => ⟨_, rfl, fun K hK => ?_, fun _ K hK => ?_⟩) ?_
  · walk_at "dl"
    refine k_or (fun z => ?_) fun z => ?_
    · rw [show numB y = false by cases y <;> first | rfl | cases z] at hK
      exact hK
    · walk_at "dl"
      rw [show (!numB y) = isBoolB y by cases y <;> first | rfl | cases z] at hK
      exact hK
  · walk_at "dl"
    exact hK
  rw [List.map_id']
  walk_at "dl"
  try refine r_ne (e := .list []) rfl rfl (shaped_sub48 hd (fun y hy => (List.mem_filter.mp hy).1) hn) rfl ?_
  rw [eqv_nilL, nonum_empty48]
  walk_at "dl"
  refine k_if (fun z => ?_) fun z => ?_
  · walk_at "dl"
    rw [restr_self]
    exact bad (by rw [es, show xs.all numB = false by simpa using z, Bool.and_false])
  obtain ⟨l, rfl⟩ := nums_of (xs := xs) (by simpa using z)
  have ll : (l.map PyData.int).length = l.length := List.length_map _
  rw [ll] at ne hl
  rw [dueP_ints ne] at k
  clear bad es q1 q z hsh
  have ixl : ∀ {i : Nat} (hi : i < l.length), atI (l.map PyData.int) (i : Int) = some (.int l[i]) := fun {i} hi => at_nat (by rw [List.getElem?_map, List.getElem?_eq_getElem hi]; rfl)
  walk_at "dl"
  rw [ll]
  refine k_wRg1 (by omega) ?_
  refine for_inv (fun r σ h' => ∃ (i : Nat) (x2 : Option SV), r = (rgD 0 (l.length : Nat)).drop i ∧ i ≤ l.length ∧ (∀ j, j < i → onceB l j = true) ∧ h = h' ∧ σ = [some (.d (.tuple (ps.map pairD))), some (.d (.tuple (l.map PyData.int))), x2, none, none, none]) ?_ ?_ _ _ _ ⟨0, _, rfl, Nat.zero_le _, (fun j hj => by omega), rfl, rfl⟩
  · rintro d r σ h' K ⟨i, x2, er, _, hb, rfl, rfl⟩ hK
    obtain ⟨hi, rfl, er2⟩ := rg_drop48 er
    refine ⟨_, rfl, ?_⟩
    show dIfS _ _ _ _ [some (.d (.tuple (ps.map pairD))), some (.d (.tuple (l.map PyData.int))), some (.d (.int (i : Nat))), none, none, none] _
    walk_at "dl"
    refine r_ixT (ixl hi) ?_
    walk_at "dl"
    rw [show cutD (l.map PyData.int) none (some (i : Int)) = (l.take i).map PyData.int by rw [cut_toB, List.map_take]]
    refine r_inT (by simp [PyData.plain]) (plain_i _) (by simp [PyData.depth]) ?_
    rw [any_inW, getD_at hi]
    walk_at "dl"
    refine k_if (fun z => ?_) fun z => ?_
    · have z' : onceB l i = false := by unfold onceB; rw [z]; rfl
      walk_at "dl"
      rw [restr_self]
      unfold dueI at k
      rw [fstNo_at hb hi z'] at k
      exact k
    · have z' : onceB l i = true := by unfold onceB; rw [z]; rfl
      walk_at "dl"
      refine hK _ _ ⟨i + 1, _, er2, hi, fun j hj => ?_, rfl, rfl⟩
      by_cases e : j = i
      · rw [e]; exact z'
      · exact hb j (by omega)
  rintro σ h' ⟨i0, x2, er, il, hb, rfl, rfl⟩
  have ei : i0 = l.length := by
    have z := congrArg List.length er
    rw [List.length_drop, rgD_length] at z
    simp at z
    omega
  subst ei
  unfold dueI at k
  rw [fstNo_none hb] at k
  clear hb er il
  walk_at "dl"
  rw [ll]
  refine k_wRg1 (by omega) ?_
  refine for_inv (fun r σ h' => ∃ (i : Nat) (x2 x3 : Option SV), r = (rgD 0 (l.length : Nat)).drop i ∧ i ≤ l.length ∧ (∀ j, j < i → nextB ps l j = true) ∧ h = h' ∧ σ = [some (.d (.tuple (ps.map pairD))), some (.d (.tuple (l.map PyData.int))), x2, x3, none, none]) ?_ ?_ _ _ _ ⟨0, _, _, rfl, Nat.zero_le _, (fun j hj => by omega), rfl, rfl⟩
  · rintro d r σ h' K ⟨i, x2, x3, er, _, hb, rfl, rfl⟩ hK
    obtain ⟨hi, rfl, er2⟩ := rg_drop48 er
    have hm : (i + 1) % l.length < l.length := Nat.mod_lt _ ne
    refine ⟨_, rfl, ?_⟩
    show dSeq _ _ _ [some (.d (.tuple (ps.map pairD))), some (.d (.tuple (l.map PyData.int))), some (.d (.int (i : Nat))), x3, none, none] _
    refine e_seq (e_asg ?_)
    have later : ∀ K' : DK, K' (.d (.int l[(i + 1) % l.length])) h → (dIf (dTest (dOp rdLt (dOp rdAdd (dVar 2) (dC (.int 1))) (dB rdLen (dCons (dVar 1) dNil)))) (dOp rdIx (dVar 1) (dOp rdAdd (dVar 2) (dC (.int 1)))) (dOp rdIx (dVar 1) (dC (.int 0)))) [some (.d (.tuple (ps.map pairD))), some (.d (.tuple (l.map PyData.int))), some (.d (.int (i : Nat))), x3, none, none] h K' := fun K' kk => by
      walk_at "dl"
      rw [ll]
      refine k_ifE (fun z => ?_) fun z => ?_
      · have z' : i + 1 < l.length := by have := of_decide_eq_true z; omega
        have e : (i + 1) % l.length = i + 1 := Nat.mod_eq_of_lt z'
        walk_at "dl"
        refine r_ixT (d := .int l[(i + 1) % l.length]) ?_ kk
        rw [show ((i : Nat) : Int) + 1 = ((i + 1 : Nat) : Int) from rfl, ixl z']
        congr 2
        simp only [e]
      · have z' : i + 1 = l.length := by have := of_decide_eq_false z; omega
        have e : (i + 1) % l.length = 0 := by rw [z', Nat.mod_self]
        walk_at "dl"
        refine r_ixT (d := .int l[(i + 1) % l.length]) ?_ kk
        rw [show (0 : Int) = ((0 : Nat) : Int) from rfl, ixl ne]
        congr 2
        simp only [e]
    refine later _ (k_nm ?_)
    dsimp only
    show dIfS _ _ _ _ [some (.d (.tuple (ps.map pairD))), some (.d (.tuple (l.map PyData.int))), some (.d (.int (i : Nat))), some (.d (.int l[(i + 1) % l.length])), none, none] _
    walk_at "dl"
    refine ⟨by rw [sizeLine_eq, List.length_map]; omega, ?_⟩
    refine lc_enc (enc := pairD) (out := pairD) (fun p => decide (p.1 = l[i]) && decide (p.2 = l[(i + 1) % l.length])) (fun p _ => ⟨_, rfl, fun K hK => ?_, fun _ K hK => ?_⟩) ?_
    · walk_at "dl"
      refine r_ixT (d := .int p.1) at_zero ?_
      walk_at "dl"
      refine r_ixT (ixl hi) ?_
      walk_at "dl"
      refine k_and (fun z => ?_) fun z => ?_
      · rw [z, Bool.true_and] at hK
        walk_at "dl"
        refine r_ixT (d := .int p.2) at_one ?_
        walk_at "dl"
        exact hK
      · rw [z] at hK
        exact hK
    · walk_at "dl"
      exact hK
    walk_at "dl"
    have eb : ((ps.filter fun p => decide (p.1 = l[i]) && decide (p.2 = l[(i + 1) % l.length])).map pairD).isEmpty = !nextB ps l i := by
      unfold nextB
      rw [← getD_at hi, ← getD_at hm]
      exact fil_pair
    try refine r_eq (e := .list []) rfl rfl (shaped_pairs48 _) rfl ?_
    rw [eqv_nilL, eb]
    walk_at "dl"
    refine k_if (fun z => ?_) fun z => ?_
    · have z' : nextB ps l i = false := by simpa using z
      walk_at "dl"
      rw [restr_self]
      rw [fstNo_at hb hi z'] at k
      exact k
    · have z' : nextB ps l i = true := by simpa using z
      walk_at "dl"
      refine hK _ _ ⟨i + 1, _, _, er2, hi, fun j hj => ?_, rfl, rfl⟩
      by_cases e : j = i
      · rw [e]; exact z'
      · exact hb j (by omega)
  rintro σ h' ⟨i0, x2, x3, er, il, hb, rfl, rfl⟩
  have ei : i0 = l.length := by
    have z := congrArg List.length er
    rw [List.length_drop, rgD_length] at z
    simp at z
    omega
  subst ei
  rw [fstNo_none hb] at k
  walk_at "dl"
  rw [restr_self, ll]
  exact k
end

/-! ### k48: refused, told -/
def Pa.Fit : Pa → Prop
  | .told n => n ≤ 10000
  | .paper w a => (PySem.PyData.strOk w && decide ((reprText w).length ≤ 60)) = true ∧ -1 ≤ a ∧ a ≤ 10000
theorem Pa.repr {p : Pa} (h : p.Fit) : reprOk p.enc := by
  cases p with
  | told n => exact (BigL.cons (n := 1) (Big.str (x := "told")) (BigL.cons (Big.int (by have h : n ≤ 10000 := h; omega)) BigL.nil)).tup.repr
  | paper w a => exact (BigL.cons (n := 1) (Big.str (x := "paper")) (BigL.cons (Big.str h.1) (BigL.cons (Big.int (by have := h.2; omega)) BigL.nil))).tup.repr
theorem fstNo_lt {p : Nat → Bool} {n k : Nat} (h : fstNo p n = some k) : k < n := by
  unfold fstNo at h
  exact List.mem_range.mp (List.mem_of_find?_eq_some h)
theorem due_repr {ps : List (Int × Int)} {d : PyData} {B n c : Nat} (hd : Zb B n c d) (hc : c ≤ 1000) : reprOk (dueP ps d).enc := by
  refine Pa.repr ?_
  unfold dueP
  split
  · have hl : ((itemsT d).map numI).length ≤ 1000 := by
      rw [List.length_map]
      cases d with
      | tuple xs =>
        cases n with
        | zero => have := hd.ok; simp [zOk] at this
        | succ n => exact Nat.le_trans hd.big.items.len (by omega)
      | _ => exact Nat.zero_le _
    generalize (itemsT d).map numI = l at hl
    unfold dueI
    cases e1 : fstNo (onceB l) l.length with
    | some k => have := fstNo_lt e1; exact ⟨by decide +kernel, by omega, by omega⟩
    | none =>
      cases e2 : fstNo (nextB ps l) l.length with
      | some k => have := fstNo_lt e2; exact ⟨by decide +kernel, by omega, by omega⟩
      | none => show l.length ≤ 10000; omega
  · exact ⟨by decide +kernel, by decide, by decide⟩
section
variable {h : MH} {Q : DK} {E : DXK} {σ : DSt}
theorem m_cnt48 {bs : List PyData} {j : Nat} (s1 : SeqAt.shaped (.list bs) = true) (e : (bs.countP fun z => PyData.eqv z (.bool true)) = j) (k : Q (.d (.int (j : Nat))) h) : rdCount (.d (.list bs)) [.d (.bool true)] h Q := by
  subst e
  exact ⟨s1, rfl, k⟩
theorem w_refusedP {Lm : DLm} {o : Pa} (hL : ∀ (Q : DK) (E : DXK), OutP o Q E h → Lm h Q E) (k : Q (.d o.enc) h) : L__law_refused Lm h Q E := by
  intro f hf
  refine fnW_mkA rfl ?_
  unfold L0__law_refused
  show dSeq _ _ _ [some (.own f), none, none, none] h
  refine e_seq (e_asg (e_tup (e_cons (e_c (e_nil (k_tup rfl rfl (k_nm ?_)))))))
  dsimp only
  show dSeq _ _ _ [some (.own f), some (.d (.tuple [.str "odd"])), none, none] h
  refine e_seq (try11_mk ?_)
  refine e_asg (e_tup (e_cons (e_c (e_cons (e_callL rfl (hL _ _ ?_))))))
  cases o with
  | told n =>
    simp only [OutP]
    refine e_nil (k_tup rfl rfl (k_nm ?_))
    dsimp only
    exact e_ret (e_var rfl (e_rtA (h0 := h) k))
  | paper w a =>
    refine ⟨true, (show kt "NoPaper" "StoreError" = some true by decide +kernel), fun _ a' na => ?_, fun z => (by cases z)⟩
    show dSeq _ _ _ [some (.own f), some (.d (.tuple [.str "odd"])), some (.own a'), none] h
    unfold noPa
    walk_at "sk"
    try refine r_addL (by decide) ?_
    walk_at "sk"
    refine m_cnt48 (j := 1) rfl (by decide +kernel) ?_
    walk_at "sA"
    exact k
theorem w_ref48 {j : Nat} {ps : List (Int × Int)} {d : PyData} {B n c : Nat} (hd : Zb B n c d) (hc : c ≤ 1000) {t1 : DTE} (s2 : slot σ j = some (.d d)) (h1 : ∀ K : DK, K (.d (.tuple (ps.map pairD))) h → t1 σ h K) (k : Q (.d (dueP ps d).enc) h) :
    dLamC L__law_refused (fun Ed => dCall Ed W_lets_ring (dCons t1 (dCons (dVar j) dNil))) noX σ h Q := by
  refine e_lamC (w_refusedP (o := dueP ps d) (fun Q2 E2 kk => ?_) k)
  unfold lamLe
  refine e_call (e_cons (h1 _ (e_cons (e_var s2 (e_nil ?_)))))
  exact w_lets_ring48 hd hc kk
end
/-! ### k48: rings drawn -/
theorem ring_goes {ws : List (Int × Int)} {l : List Int} {n : Int} (nd : l.Nodup) (h0 : l[0]? = some n) (hl : ∀ i (hi : i < l.length), lookW ws l[i] = some (l[(i + 1) % l.length]'(Nat.mod_lt _ (by omega)))) : ∀ (f i : Nat) (hi : i < l.length), l.length ≤ f + i → ringF ws n f (l.take i) l[i] = some l
  | 0, i, hi, hf => absurd hf (by omega)
  | f + 1, i, hi, hf => by
    have n0 : l[0]'(by omega) = n := by rw [List.getElem?_eq_getElem (by omega)] at h0; exact Option.some.inj h0
    have tk : l.take i ++ [l[i]] = l.take (i + 1) := by rw [List.take_succ, List.getElem?_eq_getElem hi]; rfl
    unfold ringF
    rw [hl i hi]
    show (if l[(i + 1) % l.length]'(Nat.mod_lt _ (by omega)) = n then some (l.take i ++ [l[i]]) else ringF ws n f (l.take i ++ [l[i]]) (l[(i + 1) % l.length]'(Nat.mod_lt _ (by omega)))) = some l
    by_cases q : i + 1 = l.length
    · have e : (i + 1) % l.length = 0 := by rw [q, Nat.mod_self]
      rw [if_pos (by simp only [e]; exact n0), tk, q, List.take_length]
    · have e : (i + 1) % l.length = i + 1 := Nat.mod_eq_of_lt (by omega)
      have ne : l[i + 1]'(by omega) ≠ n := fun z => by
        rw [← n0] at z
        have := List.pairwise_iff_getElem.mp nd 0 (i + 1) (by omega) (by omega) (by omega)
        exact this z.symm
      simp only [e]
      rw [if_neg ne, tk]
      exact ring_goes nd h0 hl f (i + 1) (by omega) (by omega)
/-- what the law draws: pairs of numbers with a ring among them -/
structure WsR (ws : List (Int × Int)) (l : List Int) : Prop where
  nd : (ws.map (·.1)).Nodup
  ge : ∀ p ∈ ws, (0 ≤ p.1 ∧ p.1 ≤ 10 ^ 30) ∧ (0 ≤ p.2 ∧ p.2 ≤ 10 ^ 30)
  few : ws.length ≤ 8
  lnd : l.Nodup
  lne : 0 < l.length
  lle : l.length ≤ ws.length
  lge : ∀ x ∈ l, 0 ≤ x ∧ x ≤ 10 ^ 30
  nx : ∀ i (hi : i < l.length), (l[i], l[(i + 1) % l.length]'(Nat.mod_lt _ (by omega))) ∈ ws
theorem WsR.ring {ws : List (Int × Int)} {l : List Int} (W : WsR ws l) : ringOf ws (l.getD 0 0) = some l := by
  have l0 := W.lne
  unfold ringOf
  have e := ring_goes (ws := ws) (n := l.getD 0 0) W.lnd (by rw [List.getD_eq_getElem?_getD, List.getElem?_eq_getElem l0]; rfl) (fun i hi => look_of W.nd (W.nx i hi)) ws.length 0 l0 (by have := W.lle; omega)
  rw [List.take_zero, getD_at l0] at e
  exact e
theorem pairs_tupOk (ps : List (Int × Int)) : tupOk 2 (ps.map pairD) := by
  have len : ∀ {xs ys : List PyData}, PyData.tuple xs = .tuple ys → xs.length = ys.length := fun e => by cases e; rfl
  refine ⟨by decide, fun d hd => ?_, List.pairwise_map.mpr (List.pairwise_of_forall fun v u ns r r' hn e1 e2 => ?_)⟩
  · obtain ⟨p, _, rfl⟩ := List.mem_map.mp hd
    exact ⟨[p.1, p.2], [], rfl, rfl⟩
  · have a := len e1
    have b := len e2
    rw [List.length_append, List.length_map, hn] at a b
    simp at a b
    exact ⟨a, b⟩

/-! ### k48: waits drawn -/
theorem eraseIdx_map48 {α β : Type} (f : α → β) : ∀ (l : List α) (i : Nat), (l.map f).eraseIdx i = (l.eraseIdx i).map f
  | [], _ => rfl
  | _ :: _, 0 => rfl
  | x :: l, i + 1 => by
    show f x :: (l.map f).eraseIdx i = f x :: (l.eraseIdx i).map f
    rw [eraseIdx_map48 f l i]
theorem perm_erase {α : Type} : ∀ (l : List α) (i : Nat) (hi : i < l.length), (l[i] :: l.eraseIdx i).Perm l
  | x :: l, 0, _ => List.Perm.refl _
  | x :: l, i + 1, hi => by
    have hi' : i < l.length := by rw [List.length_cons] at hi; omega
    have ih := perm_erase l i hi'
    exact (List.Perm.swap x (l[i]'hi') (l.eraseIdx i)).trans (ih.cons x)
section
variable {h : MH} {Q : DK} {E : DXK} {σ : DSt}
theorem w_law_waits48 {sc : List Int} {a : Addr} {o : MO} {C : Int} (hs : sc.length ≤ 63) (ha : h a = some o) (F : Fd sc C o) (hC : C ≤ 10 ^ 6)
    (k : ∀ (ws : List (Int × Int)) (l : List Int) (pt pp : Addr) (o' : MO) (h' : MH), WsR ws l → Fd sc (C + 40) o' → h' a = some o' → h' pt = some (.tpl [.own pp, .d (.tuple (l.map PyData.int))]) → h' pp = some (.ptp (ws.map pairD)) → (∀ b, (h b).isSome = true → b ≠ a → h' b = h b) → Q (.own pt) h') : W__law_waits [.own a] h Q E := by
  refine fnW_mkA rfl ?_
  unfold t__law_waits
  show dSeq _ _ _ [some (.own a), none, none, none, none, none, none] h
  walk_at "dl"
  refine w_drawT ha F (by omega) ⟨by decide, by decide⟩ fun v o1 v0 v1 F1 => ?_
  walk_at "dl"
  obtain ⟨many, em⟩ : ∃ many : Nat, 2 + v = many := ⟨(2 + v).toNat, by omega⟩
  have hm : 2 ≤ many ∧ many ≤ 8 := by omega
  rw [em]
  refine k_lrg1 (by omega) (by omega) ?_
  rw [rg0]
  intro p4 hp4
  walk_at "dl"
  intro p5 hp5
  refine e_nil (k_tupO rfl fun p6 hp6 => ?_)
  refine k_unp put_same rfl rfl ?_
  have hsome := fd_some ha
  have n4 : p4 ≠ a := fun z => by rw [z, put_same] at hp4; cases hp4
  have n54 : p5 ≠ p4 := fun z => by rw [z, put_same] at hp5; cases hp5
  have n5 : p5 ≠ a := fun z => by rw [z, put_other (Ne.symm n4), put_same] at hp5; cases hp5
  have n65 : p6 ≠ p5 := fun z => by rw [z, put_same] at hp6; cases hp6
  have n64 : p6 ≠ p4 := fun z => by rw [z, put_other (Ne.symm n54), put_same] at hp6; cases hp6
  have n6 : p6 ≠ a := fun z => by rw [z, put_other (Ne.symm n5), put_other (Ne.symm n4), put_same] at hp6; cases hp6
  rw [put_other n4] at hp4
  rw [put_other n54, put_other n5] at hp5
  rw [put_other n65, put_other n64, put_other n6] at hp6
  have old : ∀ b, (h b).isSome = true → b ≠ a → b ≠ p4 ∧ b ≠ p5 ∧ b ≠ p6 := fun b hb _ => ⟨(fun z => by rw [z, hp4] at hb; cases hb), (fun z => by rw [z, hp5] at hb; cases hb), (fun z => by rw [z, hp6] at hb; cases hb)⟩
  obtain ⟨h1, eh1⟩ : ∃ h1 : MH, h1 = mput (mput (mput (mput h a o1) p4 (.lst ((rgI (many : Nat)).map PyData.int))) p5 (.lst [])) p6 (.tpl [.own p4, .own p5]) := ⟨_, rfl⟩
  have g1 : h1 a = some o1 := by rw [eh1]; exact (put_other (Ne.symm n6)).trans ((put_other (Ne.symm n5)).trans ((put_other (Ne.symm n4)).trans put_same))
  have g4 : h1 p4 = some (.lst ((rgI (many : Nat)).map PyData.int)) := by rw [eh1]; exact (put_other (Ne.symm n64)).trans ((put_other (Ne.symm n54)).trans put_same)
  have g5 : h1 p5 = some (.lst (([] : List Int).map PyData.int)) := by rw [eh1]; exact (put_other (Ne.symm n65)).trans put_same
  have k1 : ∀ b, (h b).isSome = true → b ≠ a → h1 b = h b := fun b hb nb => by
    obtain ⟨m4, m5, m6⟩ := old b hb nb
    rw [eh1]
    exact (put_other m6).trans ((put_other m5).trans ((put_other m4).trans (put_other nb)))
  rw [← eh1]
  clear eh1
  dsimp only
  show dSeq _ _ _ [some (.own a), some (.d (.int (many : Nat))), none, none, some (.own p4), some (.own p5), none] h1
  walk_at "dl"
  refine w_drawT g1 F1 (by omega) ⟨by omega, by omega⟩ fun u o2 u0 u1 F2 => ?_
  walk_at "dl"
  refine k_wRg1 ⟨by omega, by omega⟩ ?_
  rw [rg0]
  obtain ⟨laps, elp⟩ : ∃ laps : Nat, 1 + u = laps := ⟨(1 + u).toNat, by omega⟩
  have hlaps : 1 ≤ laps ∧ laps ≤ many := by omega
  rw [elp]
  refine for_inv (fun r σ h' => ∃ (l2 L S : List Int) (o' : MO) (x2 : Option SV), r = l2.map PyData.int ∧ S.length + l2.length = laps ∧ (S ++ L).Perm (rgI (many : Nat)) ∧ h' a = some o' ∧ Fd sc (C + 2 + S.length) o' ∧ h' p4 = some (.lst (L.map PyData.int)) ∧ h' p5 = some (.lst (S.map PyData.int)) ∧ (∀ b, (h b).isSome = true → b ≠ a → h' b = h b) ∧
      σ = [some (.own a), some (.d (.int (many : Nat))), x2, none, some (.own p4), some (.own p5), none]) ?_ ?_ _ _ _
    ⟨rgI (laps : Nat), rgI (many : Nat), [], o2, _, rfl, by rw [rgI_len]; simp, List.Perm.refl _, put_same, F2.up (by simp; omega), (put_other n4).trans g4, (put_other n5).trans g5, fun b hb nb => (put_other nb).trans (k1 b hb nb), rfl⟩
  · rintro d r σ h' K ⟨l2, L, S, o', x2, er, sl, pm, e1, F', e4, e5, k', rfl⟩ hK
    obtain ⟨x, l2', rfl, rfl, rfl⟩ := map_cons_inv er
    rw [List.length_cons] at sl
    have ln := pm.length_eq
    rw [List.length_append, rgI_len] at ln
    have hL : 1 ≤ L.length := by omega
    refine ⟨_, rfl, ?_⟩
    show dDrop _ _ [some (.own a), some (.d (.int (many : Nat))), some (.d (.int x)), none, some (.own p4), some (.own p5), none] h'
    refine e_drop (e_ML (e_var rfl (k_ML (asL_own e5) (e_cons (e_ML (e_var rfl (k_ML (asL_own e4) (e_cons (e_call (e_cons (e_var rfl (e_cons (e_B (e_cons (e_var rfl (e_nil ?_))))))))))))))))
    refine b_lenO e4 (e_nil ?_)
    rw [List.length_map]
    refine w_drawT e1 F' (by omega) ⟨by omega, by omega⟩ fun w o3 w0 w1 F3 => ?_
    have hw : w.toNat < L.length := by omega
    refine e_nil ?_
    refine m_popAt ((put_other n4).trans e4) (by rw [List.length_map]; exact seq_ix w0 w1) (by rw [List.getElem?_map, List.getElem?_eq_getElem hw]; rfl) ⟨by omega, by omega⟩ ?_
    refine e_nil ?_
    refine m_append ((put_other n54).trans ((put_other n5).trans e5)) (by rw [List.length_map]; omega) ?_
    have em : S.map PyData.int ++ [PyData.int L[w.toNat]] = (S ++ [L[w.toNat]]).map PyData.int := by rw [List.map_append]; rfl
    have el : (L.map PyData.int).eraseIdx w.toNat = (L.eraseIdx w.toNat).map PyData.int := eraseIdx_map48 _ _ _
    rw [em, el]
    refine hK _ _ ⟨l2', L.eraseIdx w.toNat, S ++ [L[w.toNat]], o3, _, rfl, by rw [List.length_append, List.length_singleton]; omega, ?_, ?_, F3.up (by rw [List.length_append]; simp; omega), ?_, put_same, fun b hb nb => ?_, rfl⟩
    · rw [List.append_assoc]
      exact (List.Perm.append_left S (perm_erase L _ hw)).trans pm
    · exact (put_other (Ne.symm n5)).trans ((put_other (Ne.symm n4)).trans put_same)
    · exact (put_other (Ne.symm n54)).trans put_same
    · obtain ⟨m4, m5, m6⟩ := old b hb nb
      exact (put_other m5).trans ((put_other m4).trans ((put_other nb).trans (k' b hb nb)))
  rintro σ h' ⟨l2, L, S, o', x2, er, sl, pm, e1, F', e4, e5, k', rfl⟩
  have e0 : l2 = [] := by
    cases l2 with
    | nil => rfl
    | cons _ _ => cases er
  subst e0
  have sl : S.length = laps := sl
  have ln := pm.length_eq
  rw [List.length_append, rgI_len] at ln
  have nd0 : (rgI (many : Nat)).Nodup := by
    unfold rgI
    exact List.pairwise_map.mpr ((List.nodup_range (n := ((many : Nat) : Int).toNat)).imp fun {a b} z e => z (by have : (a : Int) = b := e; omega))
  have nd1 := pm.nodup_iff.mpr nd0
  obtain ⟨ndS, ndL, dis⟩ := List.nodup_append.mp nd1
  have inR : ∀ x ∈ S ++ L, 0 ≤ x ∧ x < (many : Nat) := fun x hx => mem_rgI (pm.mem_iff.mp hx)
  have sne : 0 < S.length := by omega
  have ixS : ∀ {i : Nat} (hi : i < S.length), (S.map PyData.int)[i]? = some (.int S[i]) := fun {i} hi => by rw [List.getElem?_map, List.getElem?_eq_getElem hi]; rfl
  walk_at "dl"
  rw [List.length_map]
  refine k_wRg1 ⟨by omega, by omega⟩ ?_
  refine ⟨by rw [sizeLine_eq, rgD_length]; omega, ?_⟩
  rw [show rgD 0 ((S.length : Nat) : Int) = (List.range S.length).map fun k : Nat => PyData.int (k : Int) by unfold rgD; simp]
  refine lc_enc (enc := fun k : Nat => PyData.int (k : Int)) (out := fun k : Nat => pairD (S.getD k 0, S.getD ((k + 1) % S.length) 0)) (fun _ => true) (fun j hj => ⟨_, rfl, fun K hK => ?_, fun _ K hK => ?_⟩) ?_
  · walk_at "dl"
    exact hK
  · have hj := List.mem_range.mp hj
    have hm : (j + 1) % S.length < S.length := Nat.mod_lt _ sne
    have em : ((j : Int) + 1).fmod ((S.length : Nat) : Int) = (((j + 1) % S.length : Nat) : Int) := by
      rw [Int.fmod_eq_emod_of_nonneg _ (by omega)]
      push_cast
      rfl
    show dTup _ [some (.own a), some (.d (.int (many : Nat))), some (.d (.int (j : Int))), none, some (.own p4), some (.own p5), none] h' _
    refine e_tup (e_cons (e_op (e_var rfl (e_var rfl (r_ixO e5 (at_nat (ixS hj)) ?_)))))
    refine e_cons (e_op (e_var rfl (e_op (e_op (e_var rfl (e_c (r_add (e_B (e_cons (e_var rfl (e_nil (b_lenO e5 ?_))))))))))))
    rw [List.length_map]
    refine r_mod (by omega) ?_
    rw [em]
    refine r_ixO e5 (at_nat (ixS hm)) (e_nil (k_tup rfl rfl ?_))
    rw [getD_at hj, getD_at hm]
    exact hK
  rw [List.filter_eq_self.mpr fun _ _ => rfl]
  obtain ⟨P1, eP1⟩ : ∃ P1 : List (Int × Int), P1 = (List.range S.length).map (fun k : Nat => (S.getD k 0, S.getD ((k + 1) % S.length) 0)) := ⟨_, rfl⟩
  rw [show ((List.range S.length).map fun k : Nat => pairD (S.getD k 0, S.getD ((k + 1) % S.length) 0)) = P1.map pairD by rw [eP1, List.map_map]; rfl]
  have p1l : P1.length = S.length := by rw [eP1, List.length_map, List.length_range]
  have p1k : P1.map (·.1) = S := by
    rw [eP1, List.map_map]
    refine List.ext_getElem (by rw [List.length_map, List.length_range]) fun i h1 h2 => ?_
    rw [List.getElem_map, List.getElem_range]
    exact (getD_at h2).symm
  have p1m : ∀ p ∈ P1, p.2 ∈ S := fun p hp => by
    rw [eP1] at hp
    obtain ⟨j, hj, rfl⟩ := List.mem_map.mp hp
    have hm : (j + 1) % S.length < S.length := Nat.mod_lt _ sne
    show S.getD ((j + 1) % S.length) 0 ∈ S
    rw [← getD_at hm]
    exact List.getElem_mem hm
  have p1n : ∀ i (hi : i < S.length), (S[i], S[(i + 1) % S.length]'(Nat.mod_lt _ (by omega))) ∈ P1 := fun i hi => by
    rw [eP1]
    refine List.mem_map.mpr ⟨i, List.mem_range.mpr hi, ?_⟩
    rw [getD_at hi, getD_at (Nat.mod_lt _ (by omega))]
  clear eP1
  walk_at "dl"
  refine ⟨false, (L.map PyData.int).length + 1, by rw [sizeLine_eq, List.length_map]; omega, ?_⟩
  refine lcO_inv (L.map PyData.int) (fun r acc h'' => ∃ (l1 l2 : List Int) (P2 : List (Int × Int)) (o'' : MO), L = l1 ++ l2 ∧ r = l2.map PyData.int ∧ acc = P2.map pairD ∧ P2.map (·.1) = l1 ∧ (∀ p ∈ P2, 0 ≤ p.2 ∧ p.2 < (many : Nat)) ∧ h'' a = some o'' ∧ Fd sc (C + 10 + l1.length) o'' ∧ h'' p4 = some (.lst (L.map PyData.int)) ∧ h'' p5 = some (.lst (S.map PyData.int)) ∧ (∀ b, (h b).isSome = true → b ≠ a → h'' b = h b)) ?_ ?_ ?_ _ 0 _ _ (by simp)
    ⟨[], L, [], o', rfl, rfl, rfl, rfl, (fun p hp => by cases hp), e1, F'.up (by simp; omega), e4, e5, k'⟩
  · rintro r acc h'' ⟨l1, l2, P2, o'', _, _, _, _, _, _, _, q, _⟩
    exact q
  · rintro d r acc h'' K ⟨l1, l2, P2, o'', el, er, rfl, pk, pb, q1, F2', q4, q5, k''⟩ hK
    obtain ⟨x, l2', rfl, rfl, rfl⟩ := map_cons_inv er
    have l1l : l1.length < L.length := by rw [el]; simp
    refine ⟨_, rfl, ?_⟩
    walk_at "dl"
    rw [if_pos rfl]
    refine e_tup (e_cons (e_var rfl (e_cons (e_call (e_cons (e_var rfl (e_cons (e_var rfl (e_nil ?_)))))))))
    refine w_drawT q1 F2' (by omega) ⟨by omega, by omega⟩ fun w o3 w0 w1 F3 => ?_
    refine e_nil (k_tup rfl rfl ?_)
    refine hK _ _ ⟨l1 ++ [x], l2', P2 ++ [(x, w)], o3, by rw [el]; simp, rfl, by rw [List.map_append]; rfl, by rw [List.map_append, pk]; rfl, fun p hp => ?_, put_same, F3.up (by rw [List.length_append]; simp; omega), (put_other n4).trans q4, (put_other n5).trans q5, fun b hb nb => (put_other nb).trans (k'' b hb nb)⟩
    rcases List.mem_append.mp hp with z | z
    · exact pb p z
    · rw [List.mem_singleton.mp z]; exact ⟨w0, w1⟩
  · rintro acc h'' ⟨l1, l2, P2, o'', el, er, rfl, pk, pb, q1, F2', q4, q5, k''⟩
    have e0 : l2 = [] := by
      cases l2 with
      | nil => rfl
      | cons _ _ => cases er
    subst e0
    rw [List.append_nil] at el
    have p2l : P2.length = L.length := by rw [el, ← pk, List.length_map]
    refine r_addL (by rw [List.length_map, List.length_map]; omega) ?_
    rw [show P1.map pairD ++ P2.map pairD = (P1 ++ P2).map pairD from (List.map_append).symm]
    walk_at "dl"
    refine b_sortT 2 (pairs_tupOk _) ?_
    obtain ⟨ws, pw, ew⟩ := perm_pull pairD (List.mergeSort_perm ((P1 ++ P2).map pairD) (leD 2)) _ rfl
    rw [ew]
    walk_at "dl"
    refine b_tupleP fun pp hpp => ?_
    have npa : pp ≠ a := fun z => by rw [z, q1] at hpp; cases hpp
    have np5 : pp ≠ p5 := fun z => by rw [z, q5] at hpp; cases hpp
    refine e_cons (e_B (e_cons (e_var rfl (e_nil (b_tuple (asQ_own ((put_other (Ne.symm np5)).trans q5)) ?_)))))
    refine e_nil (k_tupO rfl fun pt hpt => ?_)
    have nta : pt ≠ a := fun z => by rw [z, put_other (Ne.symm npa), q1] at hpt; cases hpt
    have ntp : pt ≠ pp := fun z => by rw [z, put_same] at hpt; cases hpt
    refine e_rtA (h0 := h) ?_
    have wl : ws.length = many := by rw [pw.length_eq, List.length_append, p1l, p2l]; omega
    have wm : ∀ p, p ∈ ws ↔ p ∈ P1 ∨ p ∈ P2 := fun p => by rw [pw.mem_iff, List.mem_append]
    have kk : ((P1 ++ P2).map (·.1)) = S ++ L := by rw [List.map_append, p1k, pk, el]
    refine k ws S pt pp o'' _ ⟨?_, fun p hp => ?_, by omega, ndS, sne, by omega, fun x hx => ?_, fun i hi => (wm _).mpr (.inl (p1n i hi))⟩ (F2'.up (by rw [← el]; omega)) ?_ put_same ?_ fun b hb nb => ?_
    · exact ((pw.map (·.1)).nodup_iff.mpr (by rw [kk]; exact nd1))
    · have h1 : 0 ≤ p.1 ∧ p.1 < (many : Nat) := inR _ (by rw [← kk]; exact List.mem_map.mpr ⟨p, List.mem_append.mpr ((wm p).mp hp), rfl⟩)
      have h2 : 0 ≤ p.2 ∧ p.2 < (many : Nat) := by
        rcases (wm p).mp hp with z | z
        · exact inR _ (List.mem_append_left _ (p1m p z))
        · exact pb p z
      omega
    · have := inR x (List.mem_append_left _ hx)
      omega
    · exact (put_other (Ne.symm nta)).trans ((put_other (Ne.symm npa)).trans q1)
    · exact (put_other (Ne.symm ntp)).trans put_same
    · have e := k'' b hb nb
      have m1 : b ≠ pp := fun z => by rw [← z, e] at hpp; rw [hpp] at hb; cases hb
      have m2 : b ≠ pt := fun z => by
        rw [← z, put_other m1, e] at hpt
        rw [hpt] at hb
        cases hb
      exact (put_other m2).trans ((put_other m1).trans e)
end

/-! ### k48 -/
def farW : List (Int × Int) := (List.range 20).map fun k : Nat => ((k : Int), ((k : Int) + 7).fmod 20)
def farI : List Int := (List.range 20).map fun k : Nat => (7 * (k : Int)).fmod 20
theorem farI_ok : farI.length = 20 ∧ ∀ x ∈ farI, 0 ≤ x ∧ x ≤ 20 := by decide +kernel
theorem farW_len : farW.length = 20 := by decide +kernel
def BB : Nat := 10 ^ 41
theorem zb_pair {B : Nat} (hB : 10 ^ 30 ≤ B) (lo : B ≤ 10 ^ 50) {p : Int × Int} (h : (0 ≤ p.1 ∧ p.1 ≤ 10 ^ 30) ∧ (0 ≤ p.2 ∧ p.2 ≤ 10 ^ 30)) : Zb B 1 3 (pairD p) := by
  have h1 : p.1.natAbs ≤ B := by omega
  have h2 : p.2.natAbs ≤ B := by omega
  refine zb_tup lo (fun x hx => ?_) (BigL.cons (a := 1) (zb_int lo h1).big (BigL.cons (a := 1) (zb_int lo h2).big BigL.nil))
  simp only [List.mem_cons, List.not_mem_nil, or_false] at hx
  rcases hx with rfl | rfl
  · exact zOk_int.mpr h1
  · exact zOk_int.mpr h2
theorem zb_list {B n c : Nat} {xs : List PyData} {k : Nat} (lo : B ≤ 10 ^ 50) (h : ∀ x ∈ xs, Zb B n c x) (hl : xs.length ≤ k) : Zb B (n + 1) (c * k + 1) (.tuple xs) ∧ Zb B (n + 1) (c * k + 1) (.list xs) := by
  have b : BigL n (c * k) xs := BigL.all (fun x hx => (h x hx).big) hl
  exact ⟨zb_tup lo (fun x hx => (h x hx).ok) b, zb_lst lo (fun x hx => (h x hx).ok) b⟩
theorem zb_waits {B k : Nat} (hB : 10 ^ 30 ≤ B) (lo : B ≤ 10 ^ 50) {ws : List (Int × Int)} (h : ∀ p ∈ ws, (0 ≤ p.1 ∧ p.1 ≤ 10 ^ 30) ∧ (0 ≤ p.2 ∧ p.2 ≤ 10 ^ 30)) (hl : ws.length ≤ k) : ∀ x ∈ ws.map pairD, Zb B 1 3 x := fun x hx => by
  obtain ⟨p, hp, rfl⟩ := List.mem_map.mp hx
  exact zb_pair hB lo (h p hp)
theorem zb_ints {B k : Nat} {xs : List PyData} (lo : B ≤ 10 ^ 50) (h : ∀ x ∈ xs, ∃ i : Int, x = .int i ∧ i.natAbs ≤ B) (hl : xs.length ≤ k) : Zb B 1 (1 * k + 1) (.tuple xs) ∧ Zb B 1 (1 * k + 1) (.list xs) := zb_list lo (fun x hx => by
  obtain ⟨i, rfl, hi⟩ := h x hx
  exact zb_int lo hi) hl
theorem law_pure : ∀ ns : List Int, ns.length ≤ 63 → (∀ z ∈ ns, Builtin.Int.intBits z ≤ 1048576) → W_law [.d (.list (ns.map PyData.int))] (fun _ => none) (fun r _ => r = .d (.bool true)) fun _ _ => False := by
  intro ns hlen _
  refine fnW_mkA rfl ?_
  unfold t_law
  show dSeq _ _ _ [some (.d (.list (ns.map PyData.int))), none, none, none, none, none, none, none, none, none, none, none, none, none, none] _
  walk_at "dl"
  refine w_tapeW fun p o hp0 F => ?_
  have hs : (ns.take 63).length ≤ 63 := List.length_take_le _ _
  generalize ns.take 63 = sc at F hs
  walk_at "dl"
  try refine r_pow (i := 10) ⟨by decide, by decide, by decide⟩ ?_
  walk_at "dl"
  obtain ⟨ms, hms⟩ : ∃ ms : List PyData, ms = [PyData.none, .bool true, .str "", .int 0, .int 1, .int (-1), .int (10 ^ (40 : Int).toNat), .tuple [.int 0], .list [.int 0]] := ⟨_, rfl⟩
  have zms : ∀ B : Nat, 10 ^ 40 ≤ B → B ≤ 10 ^ 50 → ∀ x ∈ ms, Zb B 1 3 x := fun B b1 b2 x hx => by
    have z : ∀ x ∈ ms, (zOk (10 ^ 40) 1 x && decide (nodes 1 x ≤ 3)) = true := by rw [hms]; decide +kernel
    have y := z x hx
    rw [Bool.and_eq_true] at y
    exact Zb.up (B := 10 ^ 40) (n := 1) (c := 3) ⟨y.1, of_decide_eq_true y.2, by decide +kernel⟩ b1 (Nat.le_refl _) (Nat.le_refl _) b2
  have mlen : ms.length = 9 := by rw [hms]; rfl
  rw [← hms]
  clear hms
  have lob : BB ≤ 10 ^ 50 := by decide +kernel
  refine k_wRg1 ⟨by decide, by decide⟩ ?_
  refine ⟨by rw [sizeLine_eq, rgD_length]; decide, ?_⟩
  rw [show rgD 0 (20 : Int) = (List.range 20).map fun k : Nat => PyData.int (k : Int) by unfold rgD; simp]
  refine lc_enc (enc := fun k : Nat => PyData.int (k : Int)) (out := fun k : Nat => pairD ((k : Int), ((k : Int) + 7).fmod 20)) (fun _ => true) (fun j _ => ⟨_, rfl, fun K hK => ?_, fun _ K hK => ?_⟩) ?_
  · walk_at "dl"
    exact hK
  · walk_at "dl"
    exact hK
  rw [List.filter_eq_self.mpr fun _ _ => rfl]
  rw [show ((List.range 20).map fun k : Nat => pairD ((k : Int), ((k : Int) + 7).fmod 20)) = farW.map pairD by unfold farW; rw [List.map_map]; rfl]
  walk_at "dl"
  refine k_wRg1 ⟨by decide, by decide⟩ ?_
  refine ⟨by rw [sizeLine_eq, rgD_length]; decide, ?_⟩
  rw [show rgD 0 (20 : Int) = (List.range 20).map fun k : Nat => PyData.int (k : Int) by unfold rgD; simp]
  refine lc_enc (enc := fun k : Nat => PyData.int (k : Int)) (out := fun k : Nat => PyData.int ((7 * (k : Int)).fmod 20)) (fun _ => true) (fun j _ => ⟨_, rfl, fun K hK => ?_, fun _ K hK => ?_⟩) ?_
  · walk_at "dl"
    exact hK
  · walk_at "dl"
    try refine r_mul (i := 7) (.inl ⟨by decide, by decide⟩) ?_
    walk_at "dl"
    try refine r_mod (by decide) ?_
    exact hK
  rw [List.filter_eq_self.mpr fun _ _ => rfl]
  rw [show ((List.range 20).map fun k : Nat => PyData.int ((7 * (k : Int)).fmod 20)) = farI.map PyData.int by unfold farI; rw [List.map_map]; rfl]
  walk_at "dl"
  obtain ⟨fl, fb⟩ := farI_ok
  have fwl := farW_len
  generalize farW = FW at fwl ⊢
  obtain ⟨FI, eFI⟩ : ∃ FI, FI = farI.map PyData.int := ⟨_, rfl⟩
  have fil : FI.length = 20 := by rw [eFI, List.length_map]; exact fl
  have fib : ∀ x ∈ FI, ∃ i : Int, x = .int i ∧ i.natAbs ≤ BB := fun x hx => by
    rw [eFI] at hx
    obtain ⟨i, hi, rfl⟩ := List.mem_map.mp hx
    have hB : 20 ≤ BB := by decide +kernel
    exact ⟨i, rfl, by have := fb i hi; omega⟩
  rw [← eFI]
  clear eFI fl fb
  try refine k_tg2 ?_
  walk_at "dl"
  rw [show cutD FI (some 3) none = FI.drop 3 from cut_fromB (n := 3), show cutD FI none (some 3) = FI.take 3 from cut_toB (n := 3)]
  refine r_addT (by rw [List.length_drop, List.length_take]; omega) ?_
  walk_at "dl"
  rw [show cutD FI (some 1) none = FI.drop 1 from cut_fromB (n := 1), show cutD FI none (some 1) = FI.take 1 from cut_toB (n := 1)]
  refine r_addT (by rw [List.length_take]; omega) ?_
  walk_at "dl"
  have far8 : ∀ ys : List PyData, (∀ y ∈ ys, y ∈ FI) → ys.length ≤ 40 → Zb BB 4 320 (.tuple ys) := fun ys h1 h2 => ((zb_ints (k := 40) lob (fun x hx => fib x (h1 x hx)) h2).1).up
  obtain ⟨xs0, hx0⟩ : ∃ xs0 : List PyData, xs0 = [.tuple FI, .tuple (FI.drop 3 ++ FI.take 3), .tuple (FI.drop 1), .tuple (FI ++ FI.take 1)] := ⟨_, rfl⟩
  have zx0 : ∀ x ∈ xs0, Zb BB 4 320 x := by
    rw [hx0]
    intro x hx
    simp only [List.mem_cons, List.not_mem_nil, or_false] at hx
    rcases hx with rfl | rfl | rfl | rfl
    · exact far8 _ (fun y hy => hy) (by omega)
    · exact far8 _ (fun y hy => (List.mem_append.mp hy).elim List.mem_of_mem_drop List.mem_of_mem_take) (by rw [List.length_append, List.length_drop, List.length_take]; omega)
    · exact far8 _ (fun y hy => List.mem_of_mem_drop hy) (by rw [List.length_drop]; omega)
    · exact far8 _ (fun y hy => (List.mem_append.mp hy).elim id List.mem_of_mem_take) (by rw [List.length_append, List.length_take]; omega)
  rw [← hx0]
  clear hx0 far8
  obtain ⟨h1, eh1⟩ : ∃ h1 : MH, h1 = mput (fun _ => none) p o := ⟨_, rfl⟩
  have g1 : h1 p = some o := by rw [eh1]; exact put_same
  rw [← eh1]
  clear eh1 hp0
  refine for_inv (fun r σ h' => (∀ x ∈ r, x ∈ xs0) ∧ h1 = h' ∧ ∃ x3 : Option SV, σ = [some (.d (.list (ns.map PyData.int))), some (.own p), some (.d (.list ms)), x3, none, some (.d (.tuple (FW.map pairD))), some (.d (.tuple FI)), none, none, none, none, none, none, none, none]) ?_ ?_ _ _ _
    ⟨fun x hx => hx, rfl, _, rfl⟩
  · rintro d r σ h' K ⟨hr, rfl, x3, rfl⟩ hK
    have zd := zx0 d (hr d List.mem_cons_self)
    obtain ⟨td, htd⟩ : ∃ td, (dueP FW d).enc.shown = td := ⟨_, rfl⟩
    refine ⟨_, rfl, ?_⟩
    show dIfS _ _ _ _ [some (.d (.list (ns.map PyData.int))), some (.own p), some (.d (.list ms)), some (.d d), none, some (.d (.tuple (FW.map pairD))), some (.d (.tuple FI)), none, none, none, none, none, none, none, none] h1
    walk_at "dl"
    refine w_ref48 zd (by decide) rfl (fun K' kk => e_var rfl kk) ?_
    walk_at "dl"
    refine b_reprT (due_repr zd (by decide)) htd ?_
    walk_at "dl"
    refine w_law_due48 zd (by decide) (by omega) (by decide) ?_
    walk_at "dl"
    refine b_reprT (due_repr zd (by decide)) htd ?_
    walk_at "dl"
    refine k_if (fun q => absurd q (by simp)) fun _ => ?_
    walk_at "dl"
    exact hK _ _ ⟨fun x hx => hr x (List.mem_cons_of_mem _ hx), rfl, _, rfl⟩
  rintro σ h' ⟨_, rfl, x3, rfl⟩
  clear zx0 fil fib
  walk_at "dl"
  refine k_wRg1 ⟨by decide, by decide⟩ ?_
  refine for_inv (fun r σ h' => ∃ (l rI : List Int) (o' : MO) (y3 x4 x7 x8 x9 x10 x11 x12 x13 : Option SV), rgI 3 = l ++ rI ∧ r = rI.map PyData.int ∧ h' p = some o' ∧ Fd sc (1000 * l.length) o' ∧
      σ = [some (.d (.list (ns.map PyData.int))), some (.own p), some (.d (.list ms)), y3, x4, some (.d (.tuple (FW.map pairD))), some (.d (.tuple FI)), x7, x8, x9, x10, x11, x12, x13, none]) ?_ ?_ _ _ _
    ⟨[], rgI 3, o, _, _, _, _, _, _, _, _, _, rfl, rg0 3, g1, F.up (by simp), rfl⟩
  · rintro d r σ h' K ⟨l, rI, o', y3, x4, x7, x8, x9, x10, x11, x12, x13, el, er, hp, F', rfl⟩ hK
    obtain ⟨lap, rI', rfl, rfl, rfl⟩ := map_cons_inv er
    have hll : l.length < 3 := by
      have z := congrArg List.length el
      rw [rgI_len] at z
      simp at z
      omega
    refine ⟨_, rfl, ?_⟩
    show dSeq _ _ _ [some (.d (.list (ns.map PyData.int))), some (.own p), some (.d (.list ms)), y3, some (.d (.int lap)), some (.d (.tuple (FW.map pairD))), some (.d (.tuple FI)), x7, x8, x9, x10, x11, x12, x13, none] h'
    refine e_seq (e_unp (e_call (e_cons (e_var rfl (e_nil ?_)))))
    refine w_law_waits48 hs hp F' (by omega) fun ws rg pt pp o2 h2 W F2 g1 gt gp old => ?_
    refine k_unp gt rfl rfl ?_
    dsimp only
    show dSeq _ _ _ [some (.d (.list (ns.map PyData.int))), some (.own p), some (.d (.list ms)), y3, some (.d (.int lap)), some (.d (.tuple (FW.map pairD))), some (.d (.tuple FI)), x7, x8, x9, some (.own pp), some (.d (.tuple (rg.map PyData.int))), x12, x13, none] h2
    clear gt old
    have npp : pp ≠ p := fun z => by rw [z, g1] at gp; cases gp; exact absurd F2 (by rintro ⟨_, _, _, e, _⟩; cases e)
    have wge := W.ge
    have wfew := W.few
    have lne := W.lne
    have lle := W.lle
    have lge := W.lge
    have hB30 : 10 ^ 30 ≤ BB := by decide +kernel
    obtain ⟨R, eR⟩ : ∃ R, R = rg.map PyData.int := ⟨_, rfl⟩
    have rl : R.length = rg.length := by rw [eR, List.length_map]
    have rb : ∀ B : Nat, 10 ^ 30 ≤ B → ∀ x ∈ R, ∃ i : Int, x = .int i ∧ i.natAbs ≤ B := fun B hB x hx => by
      rw [eR] at hx
      obtain ⟨i, hi, rfl⟩ := List.mem_map.mp hx
      exact ⟨i, rfl, by have := lge i hi; omega⟩
    have r0 : atI R 0 = some (.int (rg.getD 0 0)) := by
      rw [eR, ← getD_at lne]
      exact at_nat (n := 0) (by rw [List.getElem?_map, List.getElem?_eq_getElem lne]; rfl)
    have er1 : ringE (ringOf ws (rg.getD 0 0)) = .tuple R := by rw [W.ring, eR]; rfl
    have zR : ∀ B : Nat, 10 ^ 30 ≤ B → B ≤ 10 ^ 50 → ∀ ys : List PyData, (∀ y ∈ ys, y ∈ R) → ys.length ≤ 16 → Zb B 1 (1 * 16 + 1) (.tuple ys) ∧ Zb B 1 (1 * 16 + 1) (.list ys) := fun B b1 b2 ys h1 h2 => zb_ints b2 (fun x hx => rb B b1 x (h1 x hx)) h2
    have rrep : reprOk (.tuple R) := ((zR BB hB30 lob R (fun y hy => hy) (by omega)).1).repr
    obtain ⟨tr, htr⟩ : ∃ tr, (PyData.tuple R).shown = tr := ⟨_, rfl⟩
    rw [← eR]
    walk_at "dl"
    refine r_ixT r0 ?_
    walk_at "dl"
    refine w_ring_from gp W.nd (by omega) ?_
    rw [er1]
    walk_at "dl"
    refine b_reprT rrep htr ?_
    walk_at "dl"
    refine b_reprT rrep htr ?_
    walk_at "dl"
    refine k_if (fun q => absurd q (by simp)) fun _ => ?_
    walk_at "dl"
    refine w_drawT g1 F2 (by omega) ⟨by omega, by omega⟩ fun at_ o3 a0 a1 F3 => ?_
    obtain ⟨i, rfl⟩ : ∃ i : Nat, at_ = i := ⟨at_.toNat, by omega⟩
    have hi : i < R.length := by omega
    obtain ⟨h3, eh3⟩ : ∃ h3, h3 = mput h2 p o3 := ⟨_, rfl⟩
    have g3 : h3 p = some o3 := by rw [eh3]; exact put_same
    have gp3 : h3 pp = some (.ptp (ws.map pairD)) := by rw [eh3]; exact (put_other npp).trans gp
    rw [← eh3]
    clear eh3 g1 gp F2 F'
    have c1 : cutD R (some (i : Int)) none = R.drop i := cut_fromB
    have c2 : cutD R none (some (i : Int)) = R.take i := cut_toB
    have c3 : cutD R (some 1) none = R.drop 1 := cut_fromB (n := 1)
    have c4 : cutD R none (some 1) = R.take 1 := cut_toB (n := 1)
    have li : (R.take i).length ≤ 8 := by rw [List.length_take]; omega
    have ld : (R.drop i).length ≤ 8 := by rw [List.length_drop]; omega
    have l1 : (R.take 1).length ≤ 1 := by rw [List.length_take]; omega
    walk_at "dl"
    rw [c1, c2]
    refine r_addT (by omega) ?_
    walk_at "dl"
    rw [c3, c4]
    refine r_addT (by omega) ?_
    walk_at "dl"
    dsimp only [asL, asT]
    walk_at "dl"
    refine r_addT (by simp; omega) ?_
    walk_at "dl"
    rw [c2]
    refine r_addT (by simp; omega) ?_
    walk_at "dl"
    rw [c1]
    refine r_addT (by simp; omega) ?_
    walk_at "dl"
    try refine k_tupRg (by decide) (by decide) ?_
    walk_at "dl"
    try refine r_addL (by simp) ?_
    walk_at "dl"
    obtain ⟨xs0, hx0⟩ : ∃ xs0 : List PyData, xs0 = [.tuple R, .tuple (R.drop i ++ R.take i), .tuple (R.drop 1), .tuple (R ++ R.take 1), .tuple R.reverse, .list R, .tuple [], .none, .tuple [.int 99], .tuple [.int 0]] ++ [.tuple (R ++ [.int 99]), .tuple [.bool true], .tuple (R.take i ++ [.int 99] ++ R.drop i), .tuple (rgD 0 9), .str "ring"] := ⟨_, rfl⟩
    have z8 : ∀ ys : List PyData, (∀ y ∈ ys, y ∈ R ∨ y = .int 99) → ys.length ≤ 30 → Zb BB 4 320 (.tuple ys) ∧ Zb BB 4 320 (.list ys) := fun ys h1 h2 => by
      have z := zb_ints (k := 30) lob (fun x hx => (show ∃ i : Int, x = .int i ∧ i.natAbs ≤ BB by
        rcases h1 x hx with q | rfl
        · exact rb BB hB30 x q
        · exact ⟨99, rfl, by decide +kernel⟩)) h2
      exact ⟨z.1.up, z.2.up⟩
    have zx0 : ∀ x ∈ xs0, Zb BB 4 320 x := by
      rw [hx0]
      intro x hx
      have cc : ∀ d : PyData, (zOk BB 4 d && decide (nodes 4 d ≤ 320)) = true → Zb BB 4 320 d := fun d hd => by
        rw [Bool.and_eq_true] at hd
        exact ⟨hd.1, of_decide_eq_true hd.2, lob⟩
      simp only [List.cons_append, List.nil_append, List.mem_cons, List.not_mem_nil, or_false] at hx
      rcases hx with rfl | rfl | rfl | rfl | rfl | rfl | rfl | rfl | rfl | rfl | rfl | rfl | rfl | rfl | rfl
      · exact (z8 _ (fun y hy => .inl hy) (by omega)).1
      · exact (z8 _ (fun y hy => .inl ((List.mem_append.mp hy).elim List.mem_of_mem_drop List.mem_of_mem_take)) (by rw [List.length_append]; omega)).1
      · exact (z8 _ (fun y hy => .inl (List.mem_of_mem_drop hy)) (by rw [List.length_drop]; omega)).1
      · exact (z8 _ (fun y hy => .inl ((List.mem_append.mp hy).elim id List.mem_of_mem_take)) (by rw [List.length_append]; omega)).1
      · exact (z8 _ (fun y hy => .inl (List.mem_reverse.mp hy)) (by rw [List.length_reverse]; omega)).1
      · exact (z8 _ (fun y hy => .inl hy) (by omega)).2
      · exact cc _ (by decide +kernel)
      · exact cc _ (by decide +kernel)
      · exact cc _ (by decide +kernel)
      · exact cc _ (by decide +kernel)
      · exact (z8 _ (fun y hy => (List.mem_append.mp hy).elim .inl fun z => .inr (List.mem_singleton.mp z)) (by rw [List.length_append]; simp; omega)).1
      · exact cc _ (by decide +kernel)
      · refine (z8 _ (fun y hy => ?_) (by rw [List.length_append, List.length_append]; simp; omega)).1
        rcases List.mem_append.mp hy with hy | hy
        · rcases List.mem_append.mp hy with hy | hy
          · exact .inl (List.mem_of_mem_take hy)
          · exact .inr (List.mem_singleton.mp hy)
        · exact .inl (List.mem_of_mem_drop hy)
      · exact cc _ (by decide +kernel)
      · exact cc _ (by decide +kernel)
    have xl0 : xs0.length = 15 := by rw [hx0]; rfl
    try simp only [List.cons_append, List.nil_append] at hx0
    try simp only [List.cons_append, List.nil_append]
    rw [← hx0]
    clear hx0 z8
    refine k_wRg1 ⟨by decide, by decide⟩ ?_
    refine for_inv (fun r σ h' => ∃ (l3 r3 : List Int) (o4 : MO) (ys : List PyData) (y9 y12 : Option SV), rgI 7 = l3 ++ r3 ∧ r = r3.map PyData.int ∧ h' = mput h3 p o4 ∧ Fd sc (1000 * l.length + 41 + 40 * l3.length) o4 ∧ (∀ x ∈ ys, Zb BB 4 320 x) ∧ ys.length ≤ 15 + 2 * l3.length ∧
        σ = [some (.d (.list (ns.map PyData.int))), some (.own p), some (.d (.list ms)), y3, some (.d (.int lap)), some (.d (.tuple (FW.map pairD))), some (.d (.tuple FI)), some (.d (.int (i : Nat))), some (.d (.list ys)), y9, some (.own pp), some (.d (.tuple R)), y12, x13, none]) ?_ ?_ _ _ _
      ⟨[], rgI 7, o3, xs0, _, _, rfl, rg0 7, (put_id g3).symm, F3.up (by simp; omega), zx0, by rw [xl0]; simp, rfl⟩
    · rintro d r σ h' K3 ⟨l3, r3, o4, ys, y9, y12, el3, er3, rfl, F4, zy, yl, rfl⟩ hK3
      obtain ⟨tn, r3', rfl, rfl, rfl⟩ := map_cons_inv er3
      have hl3 : l3.length < 7 := by
        have z := congrArg List.length el3
        rw [rgI_len] at z
        simp at z
        omega
      refine ⟨_, rfl, ?_⟩
      walk_at "dl"
      refine w_bentZ (B := 10 ^ 40) hs ⟨by omega, by omega⟩ (by decide +kernel) (by decide +kernel) (zms _ (Nat.le_refl _) (by decide +kernel)) 12 1 17 (.tuple R) (by decide) (by decide) (by decide) ((zR (10 ^ 40) (by decide +kernel) (by decide +kernel) R (fun y hy => hy) (by omega)).1) put_same F4 (by omega) fun b1 o5 zb1 F5 => ?_
      rw [put_put]
      walk_at "dl"
      refine r_addL (by simp; omega) ?_
      walk_at "dl"
      refine w_bentZ (B := 2 * 10 ^ 40 + 1) hs ⟨by omega, by omega⟩ (by decide +kernel) (by decide +kernel) (zms _ (by decide +kernel) (by decide +kernel)) 12 2 37 b1 (by decide) (by decide) (by decide) zb1 put_same F5 (by omega) fun b2 o6 zb2 F6 => ?_
      rw [put_put]
      walk_at "dl"
      have c1 : Zb BB 4 320 b1 := zb1.up
      have c2 : Zb BB 4 320 b2 := zb2.up
      have fin : ∀ zs : List PyData, zs.length ≤ 1 → (∀ z ∈ zs, z = b2) → K3 [some (.d (.list (ns.map PyData.int))), some (.own p), some (.d (.list ms)), y3, some (.d (.int lap)), some (.d (.tuple (FW.map pairD))), some (.d (.tuple FI)), some (.d (.int (i : Nat))), some (.d (.list (ys ++ [b1] ++ zs))), some (.d (.int tn)), some (.own pp), some (.d (.tuple R)), some (.d b1), x13, none] (mput h3 p o6) := fun zs hz1 hz2 =>
        hK3 _ _ ⟨l3 ++ [tn], r3', o6, _, _, _, by rw [el3]; simp, rfl, rfl, F6.up (by rw [List.length_append]; simp; omega), fun x hx => by
          rcases List.mem_append.mp hx with hx | hx
          · rcases List.mem_append.mp hx with hx | hx
            · exact zy x hx
            · rw [List.mem_singleton.mp hx]; exact c1
          · rw [hz2 x hx]; exact c2, by rw [List.length_append, List.length_append, List.length_append, List.length_singleton, List.length_singleton]; omega, rfl⟩
      refine r_mulL ⟨by split <;> decide, by split <;> decide, by split <;> simp⟩ ?_
      have hz : ∀ j : Int, (j = 0 ∨ j = 1) → (List.replicate j.toNat [b2]).flatten.length ≤ 1 ∧ ∀ z ∈ (List.replicate j.toNat [b2]).flatten, z = b2 := fun j hj => by
        rcases hj with rfl | rfl
        · exact ⟨by simp, fun z hz => by simp at hz⟩
        · exact ⟨by simp, fun z hz => by simpa using hz⟩
      obtain ⟨a1, a2⟩ := hz _ (show (if decide (4 < tn) = true then (1 : Int) else 0) = 0 ∨ (if decide (4 < tn) = true then (1 : Int) else 0) = 1 by split <;> simp)
      generalize (List.replicate (if decide (4 < tn) = true then (1 : Int) else 0).toNat [b2]).flatten = zs at a1 a2 ⊢
      refine r_addL (by rw [List.length_append]; simp; omega) ?_
      walk_at "dl"
      exact fin zs a1 a2
    rintro σ h' ⟨l3, r3, o4, ys, y9, y12, el3, er3, rfl, F4, zy, yl, rfl⟩
    have e0 : r3 = [] := by
      cases r3 with
      | nil => rfl
      | cons _ _ => cases er3
    subst e0
    rw [List.append_nil] at el3
    have hl3 : l3.length = 7 := by rw [← el3, rgI_len]; rfl
    obtain ⟨h4, eh4⟩ : ∃ h4, h4 = mput h3 p o4 := ⟨_, rfl⟩
    have k1 : h4 p = some o4 := by rw [eh4]; exact put_same
    have k4 : h4 pp = some (.ptp (ws.map pairD)) := by rw [eh4]; exact (put_other npp).trans gp3
    rw [← eh4]
    clear eh4
    have zW : Zb BB 2 (3 * 8 + 1) (.tuple (ws.map pairD)) := (zb_list (k := 8) lob (zb_waits (k := 8) hB30 lob wge wfew) (by rw [List.length_map]; exact wfew)).1
    walk_at "dl"
    refine for_inv (fun r σ h'' => (∀ x ∈ r, x ∈ ys) ∧ h4 = h'' ∧ ∃ (z3 z13 : Option SV), σ = [some (.d (.list (ns.map PyData.int))), some (.own p), some (.d (.list ms)), z3, some (.d (.int lap)), some (.d (.tuple (FW.map pairD))), some (.d (.tuple FI)), some (.d (.int (i : Nat))), some (.d (.list ys)), y9, some (.own pp), some (.d (.tuple R)), y12, z13, none]) ?_ ?_ _ _ _
      ⟨fun x hx => hx, rfl, _, _, rfl⟩
    · rintro d r σ h'' K4 ⟨hr, rfl, z3, z13, rfl⟩ hK4
      have zd := zy d (hr d List.mem_cons_self)
      have zk : Zb BB 5 (325 + 25) (.tuple [.tuple (ws.map pairD), d]) := by
        have b : BigL 4 (25 + (320 + 0)) [PyData.tuple (ws.map pairD), d] := BigL.cons (zW.up (n' := 4)).big (BigL.cons zd.big BigL.nil)
        refine Zb.up (n := 4 + 1) (c := 25 + (320 + 0) + 1) (zb_tup lob (fun x hx => ?_) b)
        simp only [List.mem_cons, List.not_mem_nil, or_false] at hx
        rcases hx with rfl | rfl
        · exact (zW.up (n' := 4) (c' := 25)).ok
        · exact zd.ok
      obtain ⟨td, htd⟩ : ∃ td, (dueP ws d).enc.shown = td := ⟨_, rfl⟩
      obtain ⟨tk, htk⟩ : ∃ tk, (PyData.tuple [.tuple (ws.map pairD), d]).shown = tk := ⟨_, rfl⟩
      refine ⟨_, rfl, ?_⟩
      walk_at "dl"
      refine b_reprT zk.repr htk ?_
      walk_at "dl"
      refine w_ref48 zd (by decide) rfl (fun K' kk => e_asP (e_var rfl (k_asP k4 kk))) ?_
      walk_at "dl"
      refine b_reprT (due_repr zd (by decide)) htd ?_
      walk_at "dl"
      refine w_law_due48 zd (by decide) (by omega) (by decide) ?_
      walk_at "dl"
      refine b_reprT (due_repr zd (by decide)) htd ?_
      walk_at "dl"
      refine k_if (fun q => absurd q (by simp)) fun _ => ?_
      walk_at "dl"
      refine b_reprT zk.repr htk ?_
      walk_at "dl"
      refine k_if (fun q => absurd q (by simp)) fun _ => ?_
      walk_at "dl"
      exact hK4 _ _ ⟨fun x hx => hr x (List.mem_cons_of_mem _ hx), rfl, _, _, rfl⟩
    rintro σ h'' ⟨hr, rfl, z3, z13, rfl⟩
    exact hK _ _ ⟨l ++ [lap], rI', o4, _, _, _, _, _, _, _, _, _, by rw [el]; simp, rfl, k1, F4.up (by rw [List.length_append]; simp; omega), rfl⟩
  rintro σ h' ⟨l, rI, o', y3, x4, x7, x8, x9, x10, x11, x12, x13, el, er, hp, F', rfl⟩
  walk_at "dl"
  have z3 : Zb BB 1 (1 * 1 + 1) (.tuple [PyData.int 3]) := (zb_ints (k := 1) lob (fun x hx => ⟨3, List.mem_singleton.mp hx, by decide +kernel⟩) (Nat.le_refl 1)).1
  refine w_lets_ring48 (ps := [(3, 3)]) z3 (by decide) ?_
  rw [show dueP [(3, 3)] (.tuple [PyData.int 3]) = .told 1 by rfl]
  simp only [OutP]
  walk_at "dl"
  rfl

end DL.G
namespace DL.G
open PySem PySem.Spec PyProof.Rows L2
set_option autoImplicit true
theorem init_NoPaper {K : PySem.W.Frag} {mg : Str → Option Value} {C Cb : Addr} {fI : Addr} {fd : FuncData} {B newId initId : String} {bmB : List Value} (T : ErrC K mg "NoPaper" "StoreError" C Cb fI ["word", "at"] B newId initId bmB) (F : FunD K di_NoPaper.name di_NoPaper.qual di_NoPaper.params di_NoPaper.body di_NoPaper.scope [] [] fI fd) : Init2 K mg C fI "word" "at" :=
  fun prog w A R s e t0 v u X hl hg he hne hr k => err_init2 T F ⟨rfl, rfl, rfl, rfl, rfl, fun y hy => by
    rcases List.mem_cons.mp hy with e | e
    · subst e; exact ⟨rfl, by decide, by decide⟩
    · cases List.mem_singleton.mp e; exact ⟨rfl, by decide, by decide⟩⟩ (by decide) (fun _ _ _ _ _ _ us hl => match us, hl with | [_, _, _], _ => rfl) (fun _ => rfl) (fun _ => rfl) (by decide) (fun _ => rfl) (fun _ => rfl) X hl hg he hne hr k
theorem facts {w : World} {mg : Str → Option Value} {fa : Addr} {h : Heap} {K : PySem.W.Frag} (X : K.In h) (N : h.Ns mainGlobals mg) (hm : mg "law" = some (.ref fa)) (S : He.SaysX fas fns [] tfs exB w h K) :
    ∃ fd : FuncData, (∀ (s : Shared) (u : Value), BindsTo s fd ⟨[u], []⟩ [("_law_script", u)]) ∧ ∀ base : Heap, K.In base → base.Ns mainGlobals mg → (∀ c ∈ tfs.map (He.cT K), LamX.TabB base mg c.1 c.2) → FnG (PySem.Challenge.rw_besideindex_k48_rings_judged).prog w K mg base (tabsT K tfs nm) 16 fa fd ["_law_script"] W_law := by
  obtain ⟨fd_is_number, D_is_number⟩ := S.t.d.def_ 0 (d := d_is_number) rfl
  have F_is_number := fun_of (x := "is_number") (st := s_is_number) D_is_number
  have m_is_number := He.glo_ok X N (S.t.d.fact 0 (f := .glo "is_number") rfl)
  obtain ⟨fd_need, D_need⟩ := S.t.d.def_ 1 (d := d_need) rfl
  have F_need := fun_of (x := "need") (st := s_need) D_need
  have m_need := He.glo_ok X N (S.t.d.fact 1 (f := .glo "need") rfl)
  obtain ⟨fd_lets_ring, D_lets_ring⟩ := S.t.d.def_ 2 (d := d_lets_ring) rfl
  have F_lets_ring := fun_of (x := "lets_ring") (st := s_lets_ring) D_lets_ring
  have m_lets_ring := He.glo_ok X N (S.t.d.fact 2 (f := .glo "lets_ring") rfl)
  obtain ⟨fd_led_from, D_led_from⟩ := S.t.d.def_ 3 (d := d_led_from) rfl
  have F_led_from := fun_of (x := "led_from") (st := s_led_from) D_led_from
  have m_led_from := He.glo_ok X N (S.t.d.fact 3 (f := .glo "led_from") rfl)
  obtain ⟨fd_ring_from, D_ring_from⟩ := S.t.d.def_ 4 (d := d_ring_from) rfl
  have F_ring_from := fun_of (x := "ring_from") (st := s_ring_from) D_ring_from
  have m_ring_from := He.glo_ok X N (S.t.d.fact 4 (f := .glo "ring_from") rfl)
  obtain ⟨fd__law_tape, D__law_tape⟩ := S.t.d.def_ 5 (d := d__law_tape) rfl
  have F__law_tape := fun_of (x := "_law_tape") (st := s__law_tape) D__law_tape
  have m__law_tape := He.glo_ok X N (S.t.d.fact 5 (f := .glo "_law_tape") rfl)
  obtain ⟨fd__law_draw, D__law_draw⟩ := S.t.d.def_ 6 (d := d__law_draw) rfl
  have F__law_draw := fun_of (x := "_law_draw") (st := s__law_draw) D__law_draw
  have m__law_draw := He.glo_ok X N (S.t.d.fact 6 (f := .glo "_law_draw") rfl)
  obtain ⟨fd__law_bent, D__law_bent⟩ := S.t.d.def_ 7 (d := d__law_bent) rfl
  have F__law_bent := fun_of (x := "_law_bent") (st := s__law_bent) D__law_bent
  have m__law_bent := He.glo_ok X N (S.t.d.fact 7 (f := .glo "_law_bent") rfl)
  obtain ⟨fd__law_refused, D__law_refused⟩ := S.t.d.def_ 8 (d := d__law_refused) rfl
  have F__law_refused := fun_of (x := "_law_refused") (st := s__law_refused) D__law_refused
  have m__law_refused := He.glo_ok X N (S.t.d.fact 8 (f := .glo "_law_refused") rfl)
  obtain ⟨fd__law_waits, D__law_waits⟩ := S.t.d.def_ 9 (d := d__law_waits) rfl
  have F__law_waits := fun_of (x := "_law_waits") (st := s__law_waits) D__law_waits
  have m__law_waits := He.glo_ok X N (S.t.d.fact 9 (f := .glo "_law_waits") rfl)
  obtain ⟨fd__law_due, D__law_due⟩ := S.t.d.def_ 10 (d := d__law_due) rfl
  have F__law_due := fun_of (x := "_law_due") (st := s__law_due) D__law_due
  have m__law_due := He.glo_ok X N (S.t.d.fact 10 (f := .glo "_law_due") rfl)
  obtain ⟨fd_law, D_law⟩ := S.t.d.def_ 11 (d := d_law) rfl
  have F_law := fun_of (x := "law") (st := s_law) D_law
  have m_law := He.glo_ok X N (S.t.d.fact 11 (f := .glo "law") rfl)
  have g_isinstance := He.free_ok X N (S.t.d.fact 12 (f := .free "isinstance") rfl)
  have g_int := He.free_ok X N (S.t.d.fact 13 (f := .free "int") rfl)
  have g_bool := He.free_ok X N (S.t.d.fact 14 (f := .free "bool") rfl)
  have g_len := He.free_ok X N (S.t.d.fact 15 (f := .free "len") rfl)
  have g_enumerate := He.free_ok X N (S.t.d.fact 16 (f := .free "enumerate") rfl)
  have g_tuple := He.free_ok X N (S.t.d.fact 17 (f := .free "tuple") rfl)
  have g_all := He.free_ok X N (S.t.d.fact 18 (f := .free "all") rfl)
  have g_dict := He.free_ok X N (S.t.d.fact 19 (f := .free "dict") rfl)
  have g_str := He.free_ok X N (S.t.d.fact 20 (f := .free "str") rfl)
  have g_list := He.free_ok X N (S.t.d.fact 21 (f := .free "list") rfl)
  have g_ValueError := He.free_ok X N (S.t.d.fact 22 (f := .free "ValueError") rfl)
  have g_LookupError := He.free_ok X N (S.t.d.fact 23 (f := .free "LookupError") rfl)
  have g_sorted := He.free_ok X N (S.t.d.fact 24 (f := .free "sorted") rfl)
  have g_range := He.free_ok X N (S.t.d.fact 25 (f := .free "range") rfl)
  have g_repr := He.free_ok X N (S.t.d.fact 26 (f := .free "repr") rfl)
  have m_StoreError := He.glo_ok X N (S.t.d.fact 27 (f := .glo "StoreError") rfl)
  have m_LackError := He.glo_ok X N (S.t.d.fact 28 (f := .glo "LackError") rfl)
  have m_NoRow := He.glo_ok X N (S.t.d.fact 29 (f := .glo "NoRow") rfl)
  have m_NoText := He.glo_ok X N (S.t.d.fact 30 (f := .glo "NoText") rfl)
  have m_NoUse := He.glo_ok X N (S.t.d.fact 31 (f := .glo "NoUse") rfl)
  have m_Ring := He.glo_ok X N (S.t.d.fact 32 (f := .glo "Ring") rfl)
  have m_Waits := He.glo_ok X N (S.t.d.fact 33 (f := .glo "Waits") rfl)
  have m_NoUnique := He.glo_ok X N (S.t.d.fact 34 (f := .glo "NoUnique") rfl)
  have m_NoWrite := He.glo_ok X N (S.t.d.fact 35 (f := .glo "NoWrite") rfl)
  have m_NoPaper := He.glo_ok X N (S.t.d.fact 36 (f := .glo "NoPaper") rfl)
  have m_NoStep := He.glo_ok X N (S.t.d.fact 37 (f := .glo "NoStep") rfl)
  have m_NoOrder := He.glo_ok X N (S.t.d.fact 38 (f := .glo "NoOrder") rfl)
  have m_NoSeen := He.glo_ok X N (S.t.d.fact 39 (f := .glo "NoSeen") rfl)
  have m_NoWriter := He.glo_ok X N (S.t.d.fact 40 (f := .glo "NoWriter") rfl)
  have ex0 : exB K = true := S.more
  unfold exB at ex0
  simp only [Bool.and_eq_true] at ex0
  obtain ⟨x0, x1⟩ := ex0
  obtain ⟨fdi_NoPaper, Di_NoPaper⟩ := S.t.d.def_ 12 (d := di_NoPaper) rfl
  have T_NoPaper := errB_ok PySem.F.excBase_ValueError PySem.F.store_ValueError (by decide +kernel) m_NoPaper m_StoreError x0
  have e_NoPaper : Err2 K mg "NoPaper" "word" "at" := ⟨_, _, _, _, _, _, _, T_NoPaper, init_NoPaper T_NoPaper Di_NoPaper⟩
  have kit_ : KitE K kt xt := kitLB_ok x1
  have e := hm.symm.trans m_law
  cases e
  refine ⟨fd_law, fun s u => FunD.bindsA (ps := ["_law_script"]) D_law (fun _ _ _ _ _ _ us hl => match us, hl with | [_], _ => rfl) s [u] rfl, fun base KB NB TB => ?_⟩
  have c_is_number : FnC (PySem.Challenge.rw_besideindex_k48_rings_judged).prog w K mg base (tabsT K tfs nm) 1 "is_number" ["thing"] W_is_number := fn_c F_is_number (f_is_number (k := 0) F_is_number g_isinstance g_int g_bool) m_is_number fun _ _ _ _ _ _ us hl => match us, hl with | [_], _ => rfl
  have c_need : FnC (PySem.Challenge.rw_besideindex_k48_rings_judged).prog w K mg base (tabsT K tfs nm) 1 "need" ["truth", "word", "at"] W_need := fn_c F_need (f_need (k := 0) F_need e_NoPaper) m_need fun _ _ _ _ _ _ us hl => match us, hl with | [_, _, _], _ => rfl
  have c_lets_ring : FnC (PySem.Challenge.rw_besideindex_k48_rings_judged).prog w K mg base (tabsT K tfs nm) 2 "lets_ring" ["waits", "thing"] W_lets_ring := fn_c F_lets_ring (f_lets_ring (k := 1) F_lets_ring (c_need.up (by decide)) (c_is_number.up (by decide)) g_len g_enumerate g_isinstance g_tuple g_all) m_lets_ring fun _ _ _ _ _ _ us hl => match us, hl with | [_, _], _ => rfl
  have c_led_from : FnC (PySem.Challenge.rw_besideindex_k48_rings_judged).prog w K mg base (tabsT K tfs nm) 1 "led_from" ["known", "number"] W_led_from := fn_c F_led_from (f_led_from (k := 0) F_led_from) m_led_from fun _ _ _ _ _ _ us hl => match us, hl with | [_, _], _ => rfl
  have c_ring_from : FnC (PySem.Challenge.rw_besideindex_k48_rings_judged).prog w K mg base (tabsT K tfs nm) 2 "ring_from" ["waits", "number"] W_ring_from := fn_c F_ring_from (f_ring_from (k := 1) F_ring_from (c_led_from.up (by decide)) g_tuple g_dict) m_ring_from fun _ _ _ _ _ _ us hl => match us, hl with | [_, _], _ => rfl
  have c__law_tape : FnC (PySem.Challenge.rw_besideindex_k48_rings_judged).prog w K mg base (tabsT K tfs nm) 1 "_law_tape" ["_law_script"] W__law_tape := fn_c F__law_tape (f__law_tape (k := 0) F__law_tape) m__law_tape fun _ _ _ _ _ _ us hl => match us, hl with | [_], _ => rfl
  have c__law_draw : FnC (PySem.Challenge.rw_besideindex_k48_rings_judged).prog w K mg base (tabsT K tfs nm) 1 "_law_draw" ["_law_tape_here", "_law_many"] W__law_draw := fn_c F__law_draw (f__law_draw (k := 0) F__law_draw g_len) m__law_draw fun _ _ _ _ _ _ us hl => match us, hl with | [_, _], _ => rfl
  have cr__law_bent : ∀ n : Nat, FnC (PySem.Challenge.rw_besideindex_k48_rings_judged).prog w K mg base (tabsT K tfs nm) (1 + n) "_law_bent" ["_law_tape_here", "_law_thing", "_law_menu"] (R__law_bent n) := by
    intro n
    induction n with
    | zero => exact fnc_false F__law_bent m__law_bent (fun _ _ _ _ _ _ us hl => match us, hl with | [_, _, _], _ => rfl)
    | succ n ih => exact fn_c F__law_bent (f__law_bent (k := 1 + n) F__law_bent (c__law_draw.up (by omega)) ih g_isinstance g_int g_bool g_str g_tuple g_list g_len) m__law_bent (fun _ _ _ _ _ _ us hl => match us, hl with | [_, _, _], _ => rfl)
  have c__law_bent : FnC (PySem.Challenge.rw_besideindex_k48_rings_judged).prog w K mg base (tabsT K tfs nm) 13 "_law_bent" ["_law_tape_here", "_law_thing", "_law_menu"] W__law_bent := cr__law_bent 12
  have l__law_refused : FnL (PySem.Challenge.rw_besideindex_k48_rings_judged).prog w K mg base (tabsT K tfs nm) 0 "_law_refused" "_law_ask" NL__law_refused L0__law_refused := f__law_refused (k := 0) F__law_refused g_isinstance g_ValueError g_LookupError m_StoreError m_LackError m_NoRow m_NoText m_NoUse m_Ring m_Waits m_NoUnique m_NoWrite m_NoPaper m_NoStep m_NoOrder m_NoSeen m_NoWriter kit_ m__law_refused
  have c__law_waits : FnC (PySem.Challenge.rw_besideindex_k48_rings_judged).prog w K mg base (tabsT K tfs nm) 2 "_law_waits" ["_law_tape_here"] W__law_waits := fn_c F__law_waits (f__law_waits (k := 1) F__law_waits (c__law_draw.up (by decide)) g_tuple g_sorted g_range g_len g_list) m__law_waits fun _ _ _ _ _ _ us hl => match us, hl with | [_], _ => rfl
  have c__law_due : FnC (PySem.Challenge.rw_besideindex_k48_rings_judged).prog w K mg base (tabsT K tfs nm) 1 "_law_due" ["_law_pairs", "_law_thing"] W__law_due := fn_c F__law_due (f__law_due (k := 0) F__law_due g_len g_range g_isinstance g_int g_bool g_tuple) m__law_due fun _ _ _ _ _ _ us hl => match us, hl with | [_, _], _ => rfl
  exact f_law (k := 13) F_law (c_lets_ring.up (by decide)) (l__law_refused.up (by decide)) (c__law_due.up (by decide)) (c__law_bent.up (by decide)) (c__law_draw.up (by decide)) (c_ring_from.up (by decide)) (c__law_waits.up (by decide)) (c__law_tape.up (by decide)) g_range g_repr g_int g_tuple g_list g_len (tabOf_one F_law TB)
end DL.G
open PySem PySem.W PySem.Calls PyProof.Rows
theorem PySem.Challenge.cw_besideindex_k48_rings_judged_holds : PySem.Challenge.rw_besideindex_k48_rings_judged.Holds := by
  w_on; o_law
  refine HandSHeadRun.head_any (r := OpenLaw.row PySem.Challenge.rw_besideindex_k48_rings_judged) (q := view (OpenLaw.row PySem.Challenge.rw_besideindex_k48_rings_judged).prog [30]) (H := DL.G.hk) (ob := DL.G.ob) (M := 8000) (loose := DL.G.loose)
    (d := HandSHeadRun.topDef (OpenLaw.row PySem.Challenge.rw_besideindex_k48_rings_judged).prog 30) (kwd := []) DL.G.ob_eq
    (by kernel_rfl) (fun s => by kernel_rfl) DL.G.run (by kernel_rfl) (by kernel_rfl) (by kernel_rfl) (by rfl) (by first | assumption | decide +kernel) (by decide +kernel) ⟨rfl, rfl, rfl, rfl, rfl, by decide +kernel⟩ ?hw ?hc
  case hw => w_witness2
  case hc =>
    refine DL.walk_gY (l := PySem.Challenge.rw_besideindex_k48_rings_judged) (n := 63) (k := 16) (x := "_law_script") (nm := DL.G.nm) (W := DL.G.W_law) rfl (by decide) (by kernel_rfl) ⟨rfl, by decide, by decide⟩ ?F DL.G.law_pure
    intro w mg fa h K X N hmg0 S
    have hmg : mg ("law" : PySem.Str) = some (.ref fa) := by
      have e : (HandSHeadRun.topDef (OpenLaw.row PySem.Challenge.rw_besideindex_k48_rings_judged).prog 30).name = ("law" : PySem.Str) := by kernel_rfl
      rw [← e]
      exact hmg0
    exact DL.G.facts X N hmg S
